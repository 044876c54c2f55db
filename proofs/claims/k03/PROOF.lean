import PyProof.Rows.All
import Wide.All
import OpenK.AllK
import Wide.FinOn
import KE.KStateDown
import HandS.ForMost
import HandS.ForSpec
import HandS.StrMore
import HandS.IsInst
import HandS.HeadHook3
import KE.DataEq
import HandS.Lambda
import HandS.TupLe
import HandS.TupAny
import PyProof.Rows.RegReprOcc
import PyProof.MeetsStr3
import PyProof.EqAt
import PyProof.P3In
import HandS.ExcIs
import HandS.Defaults
import HandS.Ends
import HandS.Head0
import HandS.Head1
import HandS.Head2
import HandS.HeadEnd
import HandS.HeadHook4
import HandS.HeadWalk
import PySem.Challenge.RW_signsleft_k03_families
set_option Elab.async false
set_option linter.all false
set_option maxRecDepth 100000
set_option autoImplicit false
set_option maxHeartbeats 4000000
/-! ### data, the printed form, the evaluator -/
namespace Vx
open PySem L2

abbrev Tx := List Nat

/-- data, without a heap -/
inductive D where
  | non | bl (b : Bool) | int (i : Int) | str (s : Tx)
  | tup (ds : List D) | lst (ds : List D)
  /-- a dict: its items, each a tup [key, value] -/
  | dct (ds : List D)
  /-- an instance of the c-th class, its fields in order -/
  | ins (c : Nat) (ds : List D)
instance : Inhabited D := ⟨.non⟩
/-- a value: data, or a mutable object of the store -/
inductive W where
  | d (x : D) | r (n : Nat)
instance : Inhabited W := ⟨.d .non⟩
/-- a dict's key -/
inductive Ky where
  | i (n : Int) | s (t : Tx)
  deriving DecidableEq
/-- a mutable object; a dict's keys: ints and texts -/
inductive Obj where
  | lst (ws : List W) | dct (ks : List (Ky × W)) | ins (c : Nat) (ws : List W) | dead
abbrev Env := List (Option W)
abbrev Loc := List Obj

inductive Res (α : Type) where
  | ok (a : α) (l : Loc) | exc (c : Nat) (p : D) (l : Loc) | bad
def Res.bind {α β : Type} (r : Res α) (f : α → Loc → Res β) : Res β := match r with
  | .ok a l => f a l
  | .exc c p l => .exc c p l
  | .bad => .bad
@[simp] theorem Res.bind_ok {α β : Type} (a : α) (l : Loc) (f : α → Loc → Res β) : (Res.ok a l).bind f = f a l := rfl
@[simp] theorem Res.bind_exc {α β : Type} (c : Nat) (p : D) (l : Loc) (f : α → Loc → Res β) : (Res.exc c p l).bind f = .exc c p l := rfl
@[simp] theorem Res.bind_bad {α β : Type} (f : α → Loc → Res β) : (Res.bad : Res α).bind f = .bad := rfl
/-- a pure end -/
def ret {α : Type} (o : Option α) (l : Loc) : Res α := match o with
  | some a => .ok a l
  | none => .bad
@[simp] theorem ret_some {α : Type} (a : α) (l : Loc) : ret (some a) l = .ok a l := rfl
@[simp] theorem ret_none {α : Type} (l : Loc) : ret (none : Option α) l = .bad := rfl
inductive Out where
  | nx (ρ : Env) (l : Loc) | rt (w : W) (l : Loc) | bk (ρ : Env) (l : Loc) | ct (ρ : Env) (l : Loc) | exc (c : Nat) (p : D) (ρ : Env) (l : Loc) | bad

/-! ### the printed form -/
inductive Op2 where
  | add | sub | mul | fdiv | mod | pow | eq | ne | lt | le | gt | ge | isin | notin | isv | isnot
  deriving DecidableEq
/-- what a loop walks -/
inductive Ik where
  | lst | tup | str | rng1 | rng2 | enum | zip | items | keys
  deriving DecidableEq
/-- a target: a name, a tuple of names -/
inductive Tg where
  | n (i : Nat) | t (is : List Nat)
  deriving DecidableEq
/-- a type that isinstance asks -/
inductive Ty where
  | str | bool | int | lst | tup | cls (c : Nat)
  deriving DecidableEq
/-- built-in functions -/
inductive Bi where
  | len | abs | int | isi (t : Ty)
  deriving DecidableEq
/-- methods of built-in types -/
inductive Sm where
  | split | join | lower | upper | index | append | find | partition | starts | ends | get | lindex | lcount | count | rstrip | rpart
  deriving DecidableEq
mutual
inductive Ex where
  | c (x : D)
  | v (i : Nat)
  | g (x : Str) (d : D)
  | op (o : Op2) (a b : Ex)
  | chain (o1 o2 : Op2) (a b c : Ex)
  | and (a b : Ex) | or (a b : Ex) | not (a : Ex)
  | neg (a : Ex)
  | ite (c : Te) (a b : Ex)
  | tup (es : Exs)
  | lst (m : Bool) (es : Exs)
  | idx (a i : Ex)
  | sl (a : Ex) (lo hi : Eo)
  | call (ro : Bool) (f : Nat) (es : Exs)
  | bi (b : Bi) (a : Ex)
  | sm (m : Sm) (o : Ex) (es : Exs)
  | lc (m : Bool) (tg : Tg) (k : Ik) (ie : Exs) (cs : Tes) (e : Ex) (own : List (Str × Nat))
  | frz (e : Ex)
  | dnew
  /-- {}, never changed -/
  | dnewF
  /-- isinstance(e, C), C the c-th own exception class -/
  | isx (c : Nat) (a : Ex)
  /-- a call of the local that holds a lambda -/
  | act (i : Nat)
  /-- g(lambda: body) -/
  | ask (g : Nat) (body : Ex)
/-- a test -/
inductive Te where
  | e (a : Ex) | and (a b : Te) | or (a b : Te) | not (a : Te)
inductive Exs where
  | nil | cons (e : Ex) (es : Exs)
inductive Tes where
  | nil | cons (e : Te) (es : Tes)
inductive Eo where
  | no | so (e : Ex)
end
mutual
inductive St where
  | asg (tg : Tg) (e : Ex)
  | setI (o i e : Ex)
  | ex (e : Ex)
  | ret (e : Ex)
  | ifs (c : Te) (a b : Sts)
  | for (tg : Tg) (k : Ik) (ie : Exs) (body : Sts)
  | whl (n : Nat) (c : Te) (body : Sts)
  | raise (c : Nat) (m : Str)
  /-- e: the slot of the name behind `as` -/
  | try (c : Nat) (e : Option Nat) (body suite : Sts)
  | pass
inductive Sts where
  | nil | cons (s : St) (r : Sts)
end
structure Def where
  np : Nat
  nl : Nat
  body : Sts

/-! ### operations on data -/
/-- a method of texts -/
def strM : Sm → Bool
  | .append => false
  | .get => false
  | .lindex => false
  | .lcount => false
  | _ => true
/-- a method of lists of data -/
def lstM : Sm → Bool
  | .lindex => true
  | .lcount => true
  | _ => false
mutual
/-- no dict or instance, at most n deep -/
def okD : Nat → D → Bool
  | _, .non => true
  | _, .bl _ => true
  | _, .int _ => true
  | _, .str _ => true
  | n + 1, .tup ds => okL n ds
  | n + 1, .lst ds => okL n ds
  | _, _ => false
def okL : Nat → List D → Bool
  | _, [] => true
  | n, d :: ds => okD n d && okL n ds
end
mutual
def eqD : D → D → Bool
  | .non, .non => true
  | .bl a, .bl b => a == b
  | .bl a, .int j => (if a then 1 else 0) == j
  | .int i, .bl b => i == (if b then 1 else 0)
  | .int i, .int j => i == j
  | .str x, .str y => x == y
  | .lst xs, .lst ys => eqL xs ys
  | .tup xs, .tup ys => eqL xs ys
  | _, _ => false
def eqL : List D → List D → Bool
  | [], [] => true
  | x :: xs, y :: ys => eqD x y && eqL xs ys
  | _, _ => false
end
def anyD (d : D) : List D → Bool
  | [] => false
  | x :: xs => eqD x d || anyD d xs
/-- the index i (of any sign) among n -/
def ixn (n : Nat) (i : Int) : Option Nat := L2.ixN n i
def atD {α : Type} (xs : List α) (i : Int) : Option α := L2.atI xs i
def cut {α : Type} (xs : List α) (lo hi : Option Int) : List α := (xs.drop (HT.sIx xs.length 0 lo)).take (HT.sIx xs.length xs.length hi - HT.sIx xs.length 0 lo)
def big : Nat := 16777216
def fits (n : Nat) : Bool := Nat.ble n 16777216

def addD : D → D → Option D
  | .int i, .int j => some (.int (i + j))
  | .str a, .str b => if a.length + b.length ≤ 16777216 then some (.str (a ++ b)) else none
  | .lst a, .lst b => if a.length + b.length ≤ 16777216 then some (.lst (a ++ b)) else none
  | .tup a, .tup b => if a ≠ [] ∧ b ≠ [] ∧ a.length + b.length ≤ 16777216 then some (.tup (a ++ b)) else none
  | _, _ => none
def subD : D → D → Option D
  | .int i, .int j => some (.int (i - j))
  | _, _ => none
def mulD : D → D → Option D
  | .int i, .int j => if (-(2 ^ 64) < i ∧ i < 2 ^ 64) ∨ (-(2 ^ 64) < j ∧ j < 2 ^ 64) then some (.int (i * j)) else none
  | .lst a, .int k => if -9223372036854775808 ≤ k ∧ k < 9223372036854775808 ∧ a.length * k.toNat ≤ 16777216 then some (.lst (List.replicate k.toNat a).flatten) else none
  | _, _ => none
def fdivD : D → D → Option D
  | .int i, .int j => if 0 < j ∧ j < 1073741824 then some (.int (i / j)) else none
  | _, _ => none
def modD : D → D → Option D
  | .int i, .int j => if 0 < j then some (.int (i % j)) else none
  | _, _ => none
def powD : D → D → Option D
  | .int i, .int j => if 0 ≤ j ∧ j ≤ 1000000 ∧ i.natAbs < 2 ^ 64 then some (.int (i ^ j.toNat)) else none
  | _, _ => none
def eqO (a b : D) : Option Bool := if okD 12 a && okD 12 b then some (eqD a b) else none
def cmpI (f : Int → Int → Bool) : D → D → Option D
  | .int i, .int j => some (.bl (f i j))
  | _, _ => none
def inO : D → D → Option Bool
  | .str [c], .str s => some (decide (c ∈ s))
  | x, .lst ds => if okD 12 x && okL 12 ds then some (anyD x ds) else none
  | x, .tup ds => if okD 12 x && okL 12 ds then some (anyD x ds) else none
  | _, _ => none
def op2 : Op2 → D → D → Option D
  | .add, a, b => addD a b
  | .sub, a, b => subD a b
  | .mul, a, b => mulD a b
  | .fdiv, a, b => fdivD a b
  | .mod, a, b => modD a b
  | .pow, a, b => powD a b
  | .eq, a, b => (eqO a b).map .bl
  | .ne, a, b => (eqO a b).map fun t => .bl (!t)
  | .lt, a, b => cmpI (fun i j => decide (i < j)) a b
  | .le, a, b => cmpI (fun i j => decide (i ≤ j)) a b
  | .gt, a, b => cmpI (fun i j => decide (j < i)) a b
  | .ge, a, b => cmpI (fun i j => decide (j ≤ i)) a b
  | .isin, a, b => (inO a b).map .bl
  | .notin, a, b => (inO a b).map fun t => .bl (!t)
  | .isv, _, _ => none
  | .isnot, _, _ => none
def isNone : W → Bool
  | .d .non => true
  | _ => false
def isO : W → W → Option Bool
  | x, .d .non => some (isNone x)
  | .d (.bl a), .d (.bl b) => some (a == b)
  | _, _ => none
def unW : List W → Option (List D)
  | [] => some []
  | .d x :: ws => (unW ws).map (x :: ·)
  | .r _ :: _ => none
/-- what a value shows: data, or a mutable list of data -/
def pk (st : Loc) : W → Option D
  | .d x => some x
  | .r n => match st[n]? with
    | some (.lst ws) => (unW ws).map .lst
    | _ => none
def pkL (st : Loc) : List W → Option (List D)
  | [] => some []
  | w :: ws => (pk st w).bind fun d => (pkL st ws).map (d :: ·)
/-! dicts -/
def dKy : D → Option Ky
  | .int i => some (.i i)
  | .str t => some (.s t)
  | _ => none
def kyD : Ky → D
  | .i n => .int n
  | .s t => .str t
def getK (ks : List (Ky × W)) (k : Ky) : Option W := (ks.find? fun p => decide (p.1 = k)).map (·.2)
def putKy (ks : List (Ky × W)) (k : Ky) (w : W) : List (Ky × W) :=
  if (ks.any fun p => decide (p.1 = k)) = true then ks.map (fun p => if p.1 = k then (p.1, w) else p) else ks ++ [(k, w)]
/-- x in y -/
def inW (st : Loc) (x y : W) : Option Bool := match y with
  | .r n => match st[n]? with
    | some (.dct ks) => match x with
      | .d k => (dKy k).map fun k => (getK ks k).isSome
      | .r _ => none
    | _ => (pk st x).bind fun a => (pk st y).bind fun b => inO a b
  | y => (pk st x).bind fun a => (pk st y).bind fun b => inO a b
def op2W (st : Loc) : Op2 → W → W → Option W
  | .isin, x, y => (inW st x y).map fun t => .d (.bl t)
  | .notin, x, y => (inW st x y).map fun t => .d (.bl (!t))
  | .isv, x, y => (isO x y).map fun t => .d (.bl t)
  | .isnot, x, y => (isO x y).map fun t => .d (.bl (!t))
  | o, x, y => (pk st x).bind fun a => (pk st y).bind fun b => (op2 o a b).map .d
/-- truth -/
def trD : D → Option Bool
  | .non => some false
  | .bl b => some b
  | .int i => some (i != 0)
  | .str s => if s.length ≤ 16777216 then some (!s.isEmpty) else none
  | .lst ds => some (!ds.isEmpty)
  | .tup ds => some (!ds.isEmpty)
  | _ => none
mutual
def noIns : D → Bool
  | .ins _ _ => false
  | .tup ds => noInsL ds
  | .lst ds => noInsL ds
  | .dct ds => noInsL ds
  | _ => true
def noInsL : List D → Bool
  | [] => true
  | d :: ds => noIns d && noInsL ds
end
def noInsW : W → Bool
  | .d x => noIns x
  | .r _ => true
def trW (st : Loc) (x : W) : Option Bool := (pk st x).bind trD
def idxW (st : Loc) : W → W → Option W
  | .d (.lst ds), .d (.int i) => (atD ds i).map .d
  | .d (.tup ds), .d (.int i) => (atD ds i).map .d
  | .d (.str s), .d (.int i) => if s.length ≤ 16777216 then (atD s i).map fun c => .d (.str [c]) else none
  | .r n, .d k => match st[n]? with
    | some (.lst ws) => match k with
      | .int i => atD ws i
      | _ => none
    | some (.dct ks) => (dKy k).bind (getK ks)
    | _ => none
  | _, _ => none
def slD : D → Option Int → Option Int → Option D
  | .lst ds, lo, hi => some (.lst (cut ds lo hi))
  | .str s, lo, hi => if s.length ≤ 16777216 then some (.str (cut s lo hi)) else none
  | .tup ds, lo, hi => some (.tup (cut ds lo hi))
  | _, _, _ => none
def isTy : Ty → D → Option Bool
  | .str, .str _ => some true
  | .bool, .bl _ => some true
  | .int, .int _ => some true
  | .int, .bl _ => some true
  | .lst, .lst _ => some true
  | .tup, .tup _ => some true
  | .cls _, _ => none
  | _, .ins _ _ => none
  | _, _ => some false
def biD : Bi → D → Option D
  | .len, .str s => if s.length ≤ 16777216 then some (.int s.length) else none
  | .len, .lst ds => some (.int ds.length)
  | .len, .tup ds => some (.int ds.length)
  | .abs, .int i => some (.int (if i < 0 then -i else i))
  | .int, .int i => some (.int i)
  | .int, .bl b => some (.int (if b then 1 else 0))
  | .isi t, d => (isTy t d).map .bl
  | _, _ => none
def unStr : List D → Option (List Tx)
  | [] => some []
  | .str s :: ds => (unStr ds).map (s :: ·)
  | _ => none
def lowC (c : Nat) : Nat := if 65 ≤ c ∧ c ≤ 90 then c + 32 else c
def uppC (c : Nat) : Nat := if 97 ≤ c ∧ c ≤ 122 then c - 32 else c
/-- where p stands first in l, which begins at k -/
def firstAt (p : Tx) (k : Nat) : Tx → Option Nat
  | [] => none
  | c :: r => if TL.pre p (c :: r) then some k else firstAt p (k + 1) r
/-- the first place of an equal one -/
def ixD (d : D) : Nat → List D → Option Nat
  | _, [] => none
  | k, x :: xs => if eqD x d then some k else ixD d (k + 1) xs
/-- how often -/
def cntD (d : D) : List D → Nat
  | [] => 0
  | x :: xs => (if eqD x d then 1 else 0) + cntD d xs
def smD : Sm → D → List D → Option D
  | .lindex, .lst ds, [d] => if okL 12 ds && okD 12 d && Nat.ble ds.length 16777216 then (ixD d 0 ds).map fun k => .int (k : Int) else none
  | .lcount, .lst ds, [d] => if okL 12 ds && okD 12 d then some (.int (cntD d ds : Nat)) else none
  | .count, .str s, [.str [c]] => some (.int (s.count c : Nat))
  | .rstrip, .str s, [.str p] => if s.length ≤ 16777216 then some (.str (TL.tl (PySem.Txt.rstripChars ⟨s.toArray⟩ ⟨p.toArray⟩))) else none
  | .rpart, .str s, [.str p] => if p ≠ [] ∧ s.length ≤ 16777216 then some (.tup [.str (TL.tl (PySem.Txt.rpartition ⟨s.toArray⟩ ⟨p.toArray⟩).1), .str (TL.tl (PySem.Txt.rpartition ⟨s.toArray⟩ ⟨p.toArray⟩).2.1), .str (TL.tl (PySem.Txt.rpartition ⟨s.toArray⟩ ⟨p.toArray⟩).2.2)]) else none
  | .split, .str s, [.str p] => if p ≠ [] ∧ s.length + 2 ≤ 16777216 ∧ p.all (· < 256) then some (.lst ((TL.spl p 0 [] s).map .str)) else none
  | .join, .str s, [.lst ds] => (unStr ds).bind fun xs => if (xs.map List.length).sum + xs.length * s.length ≤ 16777216 then some (.str (TL.joinL s xs)) else none
  | .lower, .str s, [] => if s.length ≤ 5592405 ∧ s.all (· < 128) then some (.str (s.map lowC)) else none
  | .upper, .str s, [] => if s.length ≤ 5592405 ∧ s.all (· < 128) then some (.str (s.map uppC)) else none
  | .find, .str s, [.str p] => if p ≠ [] then some (.int (match firstAt p 0 s with
    | some k => (k : Int)
    | none => -1)) else none
  | .find, .str s, [.str p, .int i] => if p ≠ [] ∧ 0 ≤ i then some (.int (match firstAt p i.toNat (s.drop i.toNat) with
    | some k => (k : Int)
    | none => -1)) else none
  | .partition, .str s, [.str p] => if p ≠ [] ∧ s.length ≤ 16777216 then some (.tup (match TL.par p [] s with
    | some (a, b) => [.str a, .str p, .str b]
    | none => [.str s, .str [], .str []])) else none
  | .starts, .str s, [.str p] => if p ≠ [] then some (.bl (TL.pre p s)) else none
  | .ends, .str s, [.str p] => if p ≠ [] then some (.bl (decide (p.length ≤ s.length) && TL.pre p (s.drop (s.length - p.length)))) else none
  | .index, .str s, [.str p] => if p ≠ [] then (firstAt p 0 s).map fun k => .int (k : Int) else none
  | _, _, _ => none
def small62 (i : Int) : Bool := Nat.ble i.natAbs 4611686018427387903
theorem small62_ok {i : Int} (h : small62 i = true) : -(2 ^ 62) ≤ i ∧ i < 2 ^ 62 := by
  have h' := Nat.le_of_ble_eq_true h
  omega
/-- the items that a loop walks -/
def itms : Ik → List W → Option (List D)
  | .lst, [.d (.lst ds)] => some ds
  | .tup, [.d (.tup ds)] => some ds
  | .str, [.d (.str s)] => some (s.map fun c => .str [c])
  | .rng1, [.d (.int n)] => if small62 n then some ((List.range n.toNat).map fun (i : Nat) => .int (i : Int)) else none
  | .rng2, [.d (.int a), .d (.int b)] => if small62 a && small62 b then some ((List.range (b - a).toNat).map fun (i : Nat) => .int (a + (i : Int))) else none
  | _, _ => none
def setMany : List Nat → List D → Env → Option Env
  | [], [], ρ => some ρ
  | i :: is, d :: ds, ρ => setMany is ds (ρ.set i (some (.d d)))
  | _, _, _ => none
def asgT : Tg → W → Env → Option Env
  | .n i, w, ρ => some (ρ.set i (some w))
  | .t is, .d (.tup ds), ρ => if ds.length = is.length then setMany is ds ρ else none
  | _, _, _ => none
/-- the own names of a comprehension forgotten -/
def wipeE (ρ : Env) : List Nat → Env
  | [] => ρ
  | v :: vs => (wipeE ρ vs).set v none
/-- a mutable object, changed in place: only those of the own part of the store -/
def put (fx : Loc) (l : Loc) (n : Nat) (o : Obj) : Option Loc := if n < fx.length then none else some (l.set (n - fx.length) o)
def setIW (fx l : Loc) : W → W → W → Option Loc
  | .r n, .d k, w => match (fx ++ l)[n]? with
    | some (.lst ws) => match k with
      | .int i => (ixn ws.length i).bind fun j => put fx l n (.lst (ws.set j w))
      | _ => none
    | some (.dct ks) => (dKy k).bind fun k => if ks.length < 16777216 then put fx l n (.dct (putKy ks k w)) else none
    | _ => none
  | _, _, _ => none
def appW (fx l : Loc) (n : Nat) (w : W) : Option Loc := match (fx ++ l)[n]? with
  | some (.lst ws) => if ws.length < 16777216 then put fx l n (.lst (ws ++ [w])) else none
  | _ => none
/-- a list made: data, or a new object -/
def mkLst (m : Bool) (fx : Loc) (ws : List W) (l : Loc) : Res W := if ws.length ≤ 16777216 then (if m then .ok (.r (fx.length + l.length)) (l ++ [.lst ws]) else ret ((unW ws).map fun ds => .d (.lst ds)) l) else .bad
/-- a mutable list of data, finished -/
def frzW (fx : Loc) : W → Loc → Res W
  | .d x, l => .ok (.d x) l
  | .r n, l => match (fx ++ l)[n]? with
    | some (.lst ws) => (ret (unW ws) l).bind fun ds l => if n < fx.length then .bad else .ok (.d (.lst ds)) (l.set (n - fx.length) .dead)
    | _ => .bad

def isLstW : Option D → Bool
  | some (.lst _) => true
  | _ => false
/-- the receiver is of the kind that the method is of -/
def rcv (st : Loc) : Sm → W → Bool
  | .append, .r n => match st[n]? with
    | some (.lst _) => true
    | _ => false
  | .append, _ => false
  | .get, .r n => match st[n]? with
    | some (.dct _) => true
    | _ => false
  | .get, _ => false
  | .lindex, x => isLstW (pk st x)
  | .lcount, x => isLstW (pk st x)
  | _, .d (.str _) => true
  | _, _ => false
/-- d.get(k), d.get(k, w) -/
def getW (st : Loc) (x : W) (ws : List W) : Option W := match x with
  | .r n => match st[n]? with
    | some (.dct ks) => match ws with
      | [.d k] => (dKy k).map fun k => (getK ks k).getD (.d .non)
      | [.d k, w] => (dKy k).map fun k => (getK ks k).getD w
      | _ => none
    | _ => none
  | _ => none
def smW (fx : Loc) (m : Sm) (x : W) (ws : List W) (l : Loc) : Res W := match m with
  | .append => match x, ws with
    | .r n, [w] => (ret (appW fx l n w) l).bind fun l _ => .ok (.d .non) l
    | _, _ => .bad
  | .get => ret (getW (fx ++ l) x ws) l
  | m => ret ((pk (fx ++ l) x).bind fun d => (pkL (fx ++ l) ws).bind fun ds => (smD m d ds).map .d) l

/-! ### the evaluator -/
/-- the calls, the classes, the calls that hand a lambda -/
structure Cf where
  fn : Nat → List W → Loc → Loc → Res W
  sub : Nat → Nat → Option Bool
  ask : Nat → Res W → Loc → Res W
/-- a call that leaves the store as it is -/
def roCall (cf : Nat → List W → Loc → Loc → Res W) (fx : Loc) (f : Nat) (ws : List W) (l : Loc) : Res W := match cf f ws (fx ++ l) [] with
  | .ok (.d x) _ => .ok (.d x) l
  | .exc c p _ => .exc c p l
  | _ => .bad
def isxW (sub : Nat → Nat → Option Bool) (c : Nat) : W → Option W
  | .d (.ins c' _) => (sub c' c).map fun b => .d (.bl b)
  | _ => none
section
variable (cf : Cf) (fx : Loc)
def lcGo (ec : Env → Loc → Res Bool) (ee : Env → Loc → Res W) (tg : Tg) : List D → Env → Loc → Res (List W)
  | [], _, l => .ok [] l
  | d :: ds, ρ, l => (ret (asgT tg (.d d) ρ) l).bind fun ρ1 l => (ec ρ1 l).bind fun b l => match b with
    | true => (ee ρ1 l).bind fun w l => (lcGo ec ee tg ds ρ l).bind fun ws l => .ok (w :: ws) l
    | false => lcGo ec ee tg ds ρ l
def noExc {α : Type} (r : Res α) : Res α := match r with
  | .exc _ _ _ => .bad
  | r => r
mutual
def evE : Ex → Env → Loc → Res W
  | .c x, _, l => .ok (.d x) l
  | .v i, ρ, l => match ρ[i]? with
    | some (some w) => .ok w l
    | _ => .bad
  | .g _ d, _, l => .ok (.d d) l
  | .op o a b, ρ, l => (evE a ρ l).bind fun x l => (evE b ρ l).bind fun y l => ret (op2W (fx ++ l) o x y) l
  | .chain o1 o2 a b c, ρ, l => (evE a ρ l).bind fun x l => (evE b ρ l).bind fun y l => (ret (op2W (fx ++ l) o1 x y) l).bind fun t l => match t with
    | .d (.bl true) => (evE c ρ l).bind fun z l => ret (op2W (fx ++ l) o2 y z) l
    | .d (.bl false) => .ok (.d (.bl false)) l
    | _ => .bad
  | .and a b, ρ, l => (evE a ρ l).bind fun x l => (ret (trW (fx ++ l) x) l).bind fun t l => match t with
    | true => evE b ρ l
    | false => .ok x l
  | .or a b, ρ, l => (evE a ρ l).bind fun x l => (ret (trW (fx ++ l) x) l).bind fun t l => match t with
    | true => .ok x l
    | false => evE b ρ l
  | .not a, ρ, l => (evE a ρ l).bind fun x l => (ret (trW (fx ++ l) x) l).bind fun t l => .ok (.d (.bl (!t))) l
  | .neg a, ρ, l => (evE a ρ l).bind fun x l => match x with
    | .d (.int i) => .ok (.d (.int (-i))) l
    | _ => .bad
  | .ite c a b, ρ, l => (evT c ρ l).bind fun t l => match t with
    | true => evE a ρ l
    | false => evE b ρ l
  | .tup es, ρ, l => (evL es ρ l).bind fun ws l => ret ((unW ws).bind fun ds => if ds.length ≤ 16777216 then some (.d (.tup ds)) else none) l
  | .lst m es, ρ, l => (evL es ρ l).bind fun ws l => mkLst m fx ws l
  | .idx a i, ρ, l => (evE a ρ l).bind fun x l => (evE i ρ l).bind fun y l => ret (idxW (fx ++ l) x y) l
  | .sl a lo hi, ρ, l => (evE a ρ l).bind fun x l => (evO lo ρ l).bind fun p l => (evO hi ρ l).bind fun q l =>
      ret ((pk (fx ++ l) x).bind fun d => (slD d p q).map .d) l
  | .call ro f es, ρ, l => (evL es ρ l).bind fun ws l => match ro with
    | true => roCall cf.fn fx f ws l
    | false => cf.fn f ws fx l
  | .bi b a, ρ, l => (evE a ρ l).bind fun x l => ret ((pk (fx ++ l) x).bind fun d => (biD b d).map .d) l
  | .sm m o es, ρ, l => (evE o ρ l).bind fun x l => match rcv (fx ++ l) m x with
    | true => (evL es ρ l).bind fun ws l => smW fx m x ws l
    | false => .bad
  | .lc m tg k ie cs e own, ρ, l => (evL ie ρ l).bind fun ws l => (ret (itms k ws) l).bind fun ds l =>
      (noExc (lcGo (evC cs) (evE e) tg ds (wipeE ρ (own.map (·.2))) l)).bind fun ws l => mkLst m fx ws l
  | .frz e, ρ, l => (evE e ρ l).bind fun x l => frzW fx x l
  | .dnew, _, l => .ok (.r (fx.length + l.length)) (l ++ [.dct []])
  | .dnewF, _, l => .ok (.d (.dct [])) l
  | .isx c a, ρ, l => (evE a ρ l).bind fun x l => ret (isxW cf.sub c x) l
  | .act _, _, _ => .bad
  | .ask g body, ρ, l => cf.ask g (evE body ρ l) fx
/-- a test -/
def evT : Te → Env → Loc → Res Bool
  | .e a, ρ, l => (evE a ρ l).bind fun x l => ret (trW (fx ++ l) x) l
  | .and a b, ρ, l => (evT a ρ l).bind fun t l => match t with
    | true => evT b ρ l
    | false => .ok false l
  | .or a b, ρ, l => (evT a ρ l).bind fun t l => match t with
    | true => .ok true l
    | false => evT b ρ l
  | .not a, ρ, l => (evT a ρ l).bind fun t l => .ok (!t) l
def evL : Exs → Env → Loc → Res (List W)
  | .nil, _, l => .ok [] l
  | .cons e es, ρ, l => (evE e ρ l).bind fun w l => (evL es ρ l).bind fun ws l => .ok (w :: ws) l
def evC : Tes → Env → Loc → Res Bool
  | .nil, _, l => .ok true l
  | .cons e es, ρ, l => (evT e ρ l).bind fun t l => match t with
    | true => evC es ρ l
    | false => .ok false l
def evO : Eo → Env → Loc → Res (Option Int)
  | .no, _, l => .ok none l
  | .so e, ρ, l => (evE e ρ l).bind fun w l => match w with
    | .d (.int i) => .ok (some i) l
    | _ => .bad
end
/-! statements -/
def Res.out {α : Type} (r : Res α) (ρ : Env) (f : α → Loc → Out) : Out := match r with
  | .ok a l => f a l
  | .exc c p l => .exc c p ρ l
  | .bad => .bad
@[simp] theorem Res.out_ok {α : Type} (a : α) (l : Loc) (ρ : Env) (f : α → Loc → Out) : (Res.ok a l).out ρ f = f a l := rfl
@[simp] theorem Res.out_exc {α : Type} (c : Nat) (p : D) (l : Loc) (ρ : Env) (f : α → Loc → Out) : (Res.exc c p l : Res α).out ρ f = .exc c p ρ l := rfl
@[simp] theorem Res.out_bad {α : Type} (ρ : Env) (f : α → Loc → Out) : (Res.bad : Res α).out ρ f = .bad := rfl
def Out.thn (o : Out) (f : Env → Loc → Out) : Out := match o with
  | .nx ρ l => f ρ l
  | o => o
@[simp] theorem Out.thn_nx (ρ : Env) (l : Loc) (f : Env → Loc → Out) : (Out.nx ρ l).thn f = f ρ l := rfl
@[simp] theorem Out.thn_rt (w : W) (l : Loc) (f : Env → Loc → Out) : (Out.rt w l).thn f = .rt w l := rfl
@[simp] theorem Out.thn_bk (ρ : Env) (l : Loc) (f : Env → Loc → Out) : (Out.bk ρ l).thn f = .bk ρ l := rfl
@[simp] theorem Out.thn_ct (ρ : Env) (l : Loc) (f : Env → Loc → Out) : (Out.ct ρ l).thn f = .ct ρ l := rfl
@[simp] theorem Out.thn_exc (c : Nat) (p : D) (ρ : Env) (l : Loc) (f : Env → Loc → Out) : (Out.exc c p ρ l).thn f = .exc c p ρ l := rfl
@[simp] theorem Out.thn_bad (f : Env → Loc → Out) : Out.bad.thn f = .bad := rfl
def forGo (eb : Env → Loc → Out) (tg : Tg) : List D → Env → Loc → Out
  | [], ρ, l => .nx ρ l
  | d :: ds, ρ, l => match asgT tg (.d d) ρ with
    | none => .bad
    | some ρ1 => match eb ρ1 l with
      | .nx ρ2 l => forGo eb tg ds ρ2 l
      | .ct ρ2 l => forGo eb tg ds ρ2 l
      | .bk ρ2 l => .nx ρ2 l
      | o => o
def whGo (et : Env → Loc → Res Bool) (eb : Env → Loc → Out) : Nat → Env → Loc → Out
  | 0, _, _ => .bad
  | n + 1, ρ, l => (et ρ l).out ρ fun t l => match t with
    | false => .nx ρ l
    | true => match eb ρ l with
      | .nx ρ2 l => whGo et eb n ρ2 l
      | .ct ρ2 l => whGo et eb n ρ2 l
      | .bk ρ2 l => .nx ρ2 l
      | o => o
def retO (o : Option Loc) (ρ : Env) : Out := match o with
  | some l => .nx ρ l
  | none => .bad
/-- a suite lets nothing out -/
def noExO (o : Out) : Out := match o with
  | .exc _ _ _ _ => .bad
  | o => o
/-- what is known behind a suite that bound its exception to slot i: what was there, and what holds no exception -/
noncomputable def outO (a b : Option W) : Option W := open Classical in if a = b then a else match b with
  | some w => if noInsW w then some w else none
  | none => none
noncomputable def outE (ρ ρ2 : Env) (i : Nat) : Env := (List.zipWith outO ρ ρ2).set i none
/-- the suite of `as` changes no object -/
noncomputable def outS (i : Nat) (ρ : Env) (l : Loc) (o : Out) : Out := open Classical in match o with
  | .nx ρ2 l2 => if l2 = l ∧ ρ2.length = ρ.length then .nx (outE ρ ρ2 i) l else .bad
  | .rt w l2 => if l2 = l ∧ noInsW w = true then .rt w l else .bad
  | _ => .bad
/-- what an except clause does: sub tells of two classes whether the first is of the second -/
noncomputable def tryO (sub : Nat → Nat → Option Bool) (c : Nat) (e : Option Nat) (es : Env → Loc → Out) : Out → Out
  | .exc c' p ρ l => match sub c' c with
    | some true => match e with
      | none => noExO (es ρ l)
      | some i => outS i ρ l (es (ρ.set i (some (.d (.ins c' [p])))) l)
    | some false => .exc c' p ρ l
    | none => .bad
  | o => o
section
mutual
noncomputable def evS : St → Env → Loc → Out
  | .asg tg e, ρ, l => (evE cf fx e ρ l).out ρ fun w l => match asgT tg w ρ with
    | some ρ1 => .nx ρ1 l
    | none => .bad
  | .setI o i e, ρ, l => (evE cf fx e ρ l).out ρ fun w l => (evE cf fx o ρ l).out ρ fun x l => (evE cf fx i ρ l).out ρ fun y l => retO (setIW fx l x y w) ρ
  | .ex e, ρ, l => (evE cf fx e ρ l).out ρ fun _ l => .nx ρ l
  | .ret e, ρ, l => (evE cf fx e ρ l).out ρ fun w l => .rt w l
  | .ifs c a b, ρ, l => (evT cf fx c ρ l).out ρ fun t l => match t with
    | true => evSs a ρ l
    | false => evSs b ρ l
  | .for tg k ie body, ρ, l => (evL cf fx ie ρ l).out ρ fun ws l => match itms k ws with
    | some ds => forGo (evSs body) tg ds ρ l
    | none => .bad
  | .whl n c body, ρ, l => whGo (evT cf fx c) (evSs body) n ρ l
  | .raise c _, ρ, l => .exc c .non ρ l
  | .try c e body suite, ρ, l => tryO cf.sub c e (evSs suite) (evSs body ρ l)
  | .pass, ρ, l => .nx ρ l
noncomputable def evSs : Sts → Env → Loc → Out
  | .nil, ρ, l => .nx ρ l
  | .cons s r, ρ, l => (evS s ρ l).thn fun ρ l => evSs r ρ l
end
end
end
/-! ### the calls -/
def startE (n : Nat) (ws : List W) : Env := ws.map some ++ List.replicate (n - ws.length) none
def Out.res : Out → Res W
  | .nx _ l => .ok (.d .non) l
  | .rt w l => .ok w l
  | .exc c p _ l => .exc c p l
  | _ => .bad
mutual
/-- a constant, or a tuple of such -/
def conE : Ex → Option D
  | .c d => some d
  | .tup es => (conL es).bind fun ds => if ds.length ≤ 16777216 then some (.tup ds) else none
  | _ => none
def conL : Exs → Option (List D)
  | .nil => some []
  | .cons e es => (conE e).bind fun d => (conL es).map (d :: ·)
end
/-- a def that calls its parameter: x = init; try: x = (told, a()) except C as e: suite; return x -/
structure Asker where
  x : Nat
  e : Nat
  c : Nat
  init : Ex
  told : D
  suite : Sts
def askOf (df : Def) : Option Asker := match df.body with
  | .cons (.asg (.n x) init) (.cons (.try c (some e) (.cons (.asg (.n x2) (.tup (.cons (.c t) (.cons (.act 0) .nil)))) .nil) suite) (.cons (.ret (.v x3)) .nil)) =>
    if x2 = x ∧ x3 = x ∧ x ≠ 0 ∧ e ≠ 0 ∧ e ≠ x ∧ df.np = 1 ∧ x < df.nl ∧ e < df.nl ∧ noIns t = true then some ⟨x, e, c, init, t, suite⟩ else none
  | _ => none
def slotV (ρ : Env) (i : Nat) : Option W := match ρ[i]? with
  | some (some w) => some w
  | _ => none
noncomputable def askR (cf : Cf) (df : Def) (r : Res W) (fx : Loc) : Res W := match askOf df with
  | none => .bad
  | some A => match r with
    | .ok (.d x) l => if noIns x = true then .ok (.d (.tup [A.told, x])) l else .bad
    | .exc c' p l => match cf.sub c' A.c with
      | some true => (match outS A.e (List.replicate df.nl none) l (evSs cf fx A.suite ((List.replicate df.nl none).set A.e (some (.d (.ins c' [p])))) l) with
        | .nx ρ l => (ret (slotV ρ A.x) l).bind fun w l => match w with
          | .d x => .ok (.d x) l
          | .r _ => .bad
        | _ => .bad)
      | _ => .bad
    | _ => .bad
section
variable (sub : Nat → Nat → Option Bool) (dfs : List Def)
noncomputable def ask (fn : Nat → List W → Loc → Loc → Res W) (g : Nat) (r : Res W) (fx : Loc) : Res W := match dfs[g]? with
  | some df => askR ⟨fn, sub, fun _ _ _ => .bad⟩ df r fx
  | none => .bad
/-- the f-th def, at most k calls deep -/
noncomputable def call : Nat → Nat → List W → Loc → Loc → Res W
  | 0, _, _, _, _ => .bad
  | k + 1, f, ws, fx, l => match dfs[f]? with
    | some df => if ws.length = df.np then (evSs ⟨call k, sub, ask sub dfs (call k)⟩ fx df.body (startE df.nl ws) l).res else .bad
    | none => .bad
noncomputable abbrev cfK (k : Nat) : Cf := ⟨call sub dfs k, sub, ask sub dfs (call sub dfs k)⟩
end
end Vx

set_option maxHeartbeats 4000000
/-! ### data and objects over the abstract heap -/
namespace Vx
open PySem PySem.Spec PyProof.Rows L2

abbrev sx (s : Tx) : Str := ⟨s.toArray⟩
theorem tl_sx (s : Tx) : TL.tl (sx s) = s := rfl
theorem len_sx (s : Tx) : (sx s).length = s.length := by simp [sx, Str.length]

/-- the tables of code objects that lambdas are kept in -/
class Tbs where
  T : List (Addr × Str)
/-- what stands for an exception -/
class Spv where
  P : Addr → Nat → List D → Prop
/-- none does -/
@[reducible] def noSpv : Spv := ⟨fun _ _ _ => False⟩
def isTbl : HO → Bool
  | .tbl _ => true
  | _ => false
theorem isTbl_ne {o : HO} (h : isTbl o = false) : ∀ ps, o ≠ .tbl ps := fun ps e => by subst e; cases h
/-- neither a table nor a code object -/
def isPl : HO → Bool
  | .tbl _ => false
  | .ext _ => false
  | _ => true
variable [tb : Tbs]
section
variable [sp : Spv]
mutual
/-- v is the data, in the frozen part F of the heap -/
def Rep (F : Hp) : V → D → Prop
  | v, .non => v = .non
  | v, .bl b => v = .bl b
  | v, .int i => v = .int i
  | v, .str s => v = .str (sx s)
  | v, .tup ds => ∃ a vs, v = .ref a ∧ F a = some (.tup vs) ∧ RepL F vs ds
  | v, .lst ds => ∃ a vs, v = .ref a ∧ F a = some (.lst vs) ∧ RepL F vs ds
  | v, .dct ds => ds = [] ∧ ∃ a, v = .ref a ∧ F a = some (.dK [])
  | v, .ins c ds => ∃ a, v = .ref a ∧ Spv.P a c ds
def RepL (F : Hp) : List V → List D → Prop
  | vs, [] => vs = []
  | vs, d :: ds => ∃ v r, vs = v :: r ∧ Rep F v d ∧ RepL F r ds
end
def Rp (F : Hp) (ms : List Addr) (v : V) : W → Prop
  | .d x => Rep F v x
  | .r n => ∃ a, ms[n]? = some a ∧ v = .ref a
def RpL (F : Hp) (ms : List Addr) : List V → List W → Prop
  | [], [] => True
  | v :: vs, w :: ws => Rp F ms v w ∧ RpL F ms vs ws
  | _, _ => False
def keyOf : Ky → L2.Key
  | .i n => .inl n
  | .s t => .inr (sx t)
def KvR (F : Hp) (ms : List Addr) : List (L2.Key × V) → List (Ky × W) → Prop
  | [], [] => True
  | p :: ps, q :: qs => p.1 = keyOf q.1 ∧ Rp F ms p.2 q.2 ∧ KvR F ms ps qs
  | _, _ => False
def ObR (F : Hp) (ms : List Addr) (H : Hp) (a : Addr) : Obj → Prop
  | .lst ws => F a = none ∧ ∃ vs, H a = some (.lst vs) ∧ RpL F ms vs ws
  | .dct ks => F a = none ∧ ∃ kvs, H a = some (.dK kvs) ∧ KvR F ms kvs ks
  | .ins _ _ => False
  | .dead => ∃ o, H a = some o ∧ isPl o = true
structure SRel (F : Hp) (ms : List Addr) (st : Loc) (H : Hp) : Prop where
  len : ms.length = st.length
  nd : ms.Nodup
  le : ∀ a o, F a = some o → Rd H a o
  at_ : ∀ (n : Nat) (a : Addr) (o : Obj), ms[n]? = some a → st[n]? = some o → ObR F ms H a o
  nt : ∀ a o, F a = some o → isTbl o = false
  tabs : LamX.Tabs Tbs.T H
structure EnvR (F : Hp) (ms : List Addr) (ρ : Env) (σ : L2.St) : Prop where
  len : ρ.length = σ.length
  at_ : ∀ (i : Nat) (w : W), ρ[i]? = some (some w) → ∃ v, σ[i]? = some (some v) ∧ Rp F ms v w
end
/-- nothing stands there, or a table -/
def Fsh (H : Hp) (a : Addr) : Prop := ∀ o, H a = some o → isTbl o = true
theorem Fsh.of {H : Hp} {a : Addr} (h : H a = none) : Fsh H a := fun o e => by rw [h] at e; cases e
theorem Fsh.no {H : Hp} {a : Addr} {o : HO} (f : Fsh H a) (h : H a = some o) (i : isTbl o = false) : False := by
  rw [f o h] at i; cases i
structure Stp (F : Hp) (ms : List Addr) (H : Hp) (F' : Hp) (ms' : List Addr) (H' : Hp) : Prop where
  sub : ∀ a o, F a = some o → F' a = some o
  pre : ms <+: ms'
  keep : ∀ a o, H a = some o → a ∉ ms → isTbl o = false → H' a = some o
  new : ∀ a, a ∈ ms' → a ∉ ms → Fsh H a
  newF : ∀ a o, F' a = some o → F a = some o ∨ Fsh H a ∨ a ∈ ms'
section
variable {F F1 F2 : Hp} {ms ms1 ms2 : List Addr} {H H1 H2 : Hp} {v : V} {vs : List V}
theorem Stp.refl : Stp F ms H F ms H := ⟨fun _ _ h => h, List.prefix_refl _, fun _ _ h _ _ => h, fun _ h n => absurd h n, fun _ _ h => .inl h⟩
theorem Stp.trans (a : Stp F ms H F1 ms1 H1) (b : Stp F1 ms1 H1 F2 ms2 H2) : Stp F ms H F2 ms2 H2 where
  sub := fun x o h => b.sub x o (a.sub x o h)
  pre := a.pre.trans b.pre
  keep := fun x o h n i => b.keep x o (a.keep x o h n i) (fun hm => (a.new x hm n).no h i) i
  new := fun x h n o e => by
    cases i : isTbl o with
    | true => rfl
    | false =>
      exfalso
      by_cases hx : x ∈ ms1
      · exact (a.new x hx n).no e i
      · exact (b.new x h hx).no (a.keep x o e n i) i
  newF := fun x o h => by
    have sub : ∀ y, y ∈ ms1 → y ∈ ms2 := fun y hy => b.pre.subset hy
    rcases b.newF x o h with h1 | h1 | h1
    · rcases a.newF x o h1 with h2 | h2 | h2
      · exact .inl h2
      · exact .inr (.inl h2)
      · exact .inr (.inr (sub x h2))
    · by_cases hm : x ∈ ms
      · exact .inr (.inr (sub x (a.pre.subset hm)))
      · refine .inr (.inl fun u q => ?_)
        cases i : isTbl u with
        | true => rfl
        | false => exact (h1.no (a.keep x u q hm i) i).elim
    · exact .inr (.inr h1)
theorem pre_get {ms ms1 : List Addr} (h : ms <+: ms1) {n : Nat} {a : Addr} (e : ms[n]? = some a) : ms1[n]? = some a := by
  obtain ⟨r, rfl⟩ := h
  rw [List.getElem?_append_left (List.getElem?_eq_some_iff.mp e).1]
  exact e
variable [sp : Spv]
mutual
theorem Rep.mono (s : ∀ a o, F a = some o → F1 a = some o) : ∀ (d : D) (v : V), Rep F v d → Rep F1 v d
  | .non, _, h => h
  | .bl _, _, h => h
  | .int _, _, h => h
  | .str _, _, h => h
  | .tup ds, v, h => by
    unfold Rep at h ⊢
    obtain ⟨a, vs, e, ha, hl⟩ := h
    exact ⟨a, vs, e, s _ _ ha, RepL.mono s ds vs hl⟩
  | .lst ds, v, h => by
    unfold Rep at h ⊢
    obtain ⟨a, vs, e, ha, hl⟩ := h
    exact ⟨a, vs, e, s _ _ ha, RepL.mono s ds vs hl⟩
  | .dct ds, v, h => by
    unfold Rep at h ⊢
    obtain ⟨e, a, e1, ha⟩ := h
    exact ⟨e, a, e1, s _ _ ha⟩
  | .ins _ _, _, h => by unfold Rep at h ⊢; exact h
theorem RepL.mono (s : ∀ a o, F a = some o → F1 a = some o) : ∀ (ds : List D) (vs : List V), RepL F vs ds → RepL F1 vs ds
  | [], _, h => by unfold RepL at h ⊢; exact h
  | d :: ds, vs, h => by
    unfold RepL at h ⊢
    obtain ⟨v, r, e, h1, h2⟩ := h
    exact ⟨v, r, e, Rep.mono s d v h1, RepL.mono s ds r h2⟩
end
theorem Rp.mono (s : ∀ a o, F a = some o → F1 a = some o) (p : ms <+: ms1) : ∀ {w : W}, Rp F ms v w → Rp F1 ms1 v w
  | .d x, h => Rep.mono s x v h
  | .r n, ⟨a, e, h⟩ => ⟨a, pre_get p e, h⟩
theorem RpL.mono (s : ∀ a o, F a = some o → F1 a = some o) (p : ms <+: ms1) : ∀ {vs : List V} {ws : List W}, RpL F ms vs ws → RpL F1 ms1 vs ws
  | [], [], _ => trivial
  | _ :: _, _ :: _, ⟨h, t⟩ => ⟨Rp.mono s p h, RpL.mono s p t⟩
  | [], _ :: _, h => h.elim
  | _ :: _, [], h => h.elim
theorem Rp.stp (t : Stp F ms H F1 ms1 H1) {w : W} (h : Rp F ms v w) : Rp F1 ms1 v w := h.mono t.sub t.pre
theorem RpL.stp (t : Stp F ms H F1 ms1 H1) {ws : List W} (h : RpL F ms vs ws) : RpL F1 ms1 vs ws := h.mono t.sub t.pre
theorem EnvR.stp {ρ : Env} {σ : L2.St} (t : Stp F ms H F1 ms1 H1) (h : EnvR F ms ρ σ) : EnvR F1 ms1 ρ σ :=
  ⟨h.len, fun i w e => by obtain ⟨v, a, b⟩ := h.at_ i w e; exact ⟨v, a, b.stp t⟩⟩
theorem RpL.len : ∀ {vs : List V} {ws : List W}, RpL F ms vs ws → vs.length = ws.length
  | [], [], _ => rfl
  | _ :: _, _ :: _, ⟨_, t⟩ => congrArg Nat.succ (RpL.len t)
  | [], _ :: _, h => h.elim
  | _ :: _, [], h => h.elim
theorem RepL.len : ∀ {ds : List D} {vs : List V}, RepL F vs ds → vs.length = ds.length
  | [], _, h => by unfold RepL at h; subst h; rfl
  | d :: ds, _, h => by
    unfold RepL at h
    obtain ⟨v, r, rfl, _, h2⟩ := h
    exact congrArg Nat.succ (RepL.len h2)
theorem RepL.nil : RepL F [] [] := by unfold RepL; rfl
theorem RepL.cons {d : D} {ds : List D} (h : Rep F v d) (t : RepL F vs ds) : RepL F (v :: vs) (d :: ds) := by unfold RepL; exact ⟨v, vs, rfl, h, t⟩
theorem RepL.append : ∀ {ds es : List D} {vs us : List V}, RepL F vs ds → RepL F us es → RepL F (vs ++ us) (ds ++ es)
  | [], _, _, _, h, t => by unfold RepL at h; subst h; exact t
  | d :: ds, _, _, _, h, t => by
    unfold RepL at h
    obtain ⟨v, r, rfl, h1, h2⟩ := h
    exact RepL.cons h1 (RepL.append h2 t)
theorem RepL.get : ∀ {ds : List D} {vs : List V} {i : Nat} {d : D}, RepL F vs ds → ds[i]? = some d → ∃ v, vs[i]? = some v ∧ Rep F v d
  | [], _, _, _, _, e => by simp at e
  | d :: ds, _, i, _, h, e => by
    unfold RepL at h
    obtain ⟨v, r, rfl, h1, h2⟩ := h
    cases i with
    | zero => simp at e; subst e; exact ⟨v, rfl, h1⟩
    | succ i =>
      obtain ⟨u, a, b⟩ := RepL.get (i := i) h2 (by simpa using e)
      exact ⟨u, by simpa using a, b⟩
theorem RpL.get : ∀ {ws : List W} {vs : List V} {i : Nat} {w : W}, RpL F ms vs ws → ws[i]? = some w → ∃ v, vs[i]? = some v ∧ Rp F ms v w
  | [], [], _, _, _, e => by simp at e
  | w :: ws, v :: vs, 0, _, ⟨h, _⟩, e => by simp at e; subst e; exact ⟨v, rfl, h⟩
  | w :: ws, v :: vs, i + 1, _, ⟨_, t⟩, e => by
    obtain ⟨u, a, b⟩ := RpL.get (i := i) t (by simpa using e)
    exact ⟨u, by simpa using a, b⟩
  | [], _ :: _, _, _, h, _ => h.elim
  | _ :: _, [], _, _, h, _ => h.elim
theorem RpL.set : ∀ {ws : List W} {vs : List V} (i : Nat) {v : V} {w : W}, RpL F ms vs ws → Rp F ms v w → RpL F ms (vs.set i v) (ws.set i w)
  | [], [], _, _, _, h, _ => trivial
  | w :: ws, v :: vs, 0, _, _, ⟨_, t⟩, h => ⟨h, t⟩
  | w :: ws, v :: vs, i + 1, _, _, ⟨h1, t⟩, h => ⟨h1, RpL.set i t h⟩
  | [], _ :: _, _, _, _, h, _ => h.elim
  | _ :: _, [], _, _, _, h, _ => h.elim
theorem RpL.append : ∀ {ws us : List W} {vs xs : List V}, RpL F ms vs ws → RpL F ms xs us → RpL F ms (vs ++ xs) (ws ++ us)
  | [], _, [], _, _, t => t
  | w :: ws, _, v :: vs, _, ⟨h, t1⟩, t => ⟨h, RpL.append t1 t⟩
  | [], _, _ :: _, _, h, _ => h.elim
  | _ :: _, _, [], _, h, _ => h.elim
theorem RpL.un : ∀ {ws : List W} {vs : List V} {ds : List D}, RpL F ms vs ws → unW ws = some ds → RepL F vs ds
  | [], [], ds, _, e => by
    have : ds = [] := by simpa [unW] using e.symm
    subst this; exact RepL.nil
  | .d x :: ws, v :: vs, ds, ⟨h, t⟩, e => by
    cases q : unW ws with
    | none => simp [unW, q] at e
    | some es =>
      have : ds = x :: es := by simpa [unW, q] using e.symm
      subst this
      exact RepL.cons h (RpL.un t q)
  | .r n :: ws, _, _, _, e => by simp [unW] at e
  | [], _ :: _, _, h, _ => h.elim
  | _ :: _, [], _, h, _ => h.elim
theorem RpL.of : ∀ {ds : List D} {vs : List V}, RepL F vs ds → RpL F ms vs (ds.map .d)
  | [], _, h => by unfold RepL at h; subst h; trivial
  | d :: ds, _, h => by
    unfold RepL at h
    obtain ⟨v, r, rfl, h1, h2⟩ := h
    exact ⟨h1, RpL.of h2⟩

/-! what is read -/
def Pk (F H : Hp) (v : V) : D → Prop
  | .tup ds => ∃ a vs, v = .ref a ∧ Rd H a (.tup vs) ∧ RepL F vs ds ∧ F a = some (.tup vs)
  | .lst ds => ∃ a vs, v = .ref a ∧ Rd H a (.lst vs) ∧ RepL F vs ds
  | .dct ds => ds = [] ∧ ∃ a, v = .ref a ∧ Rd H a (.dK [])
  | d => Rep F v d
theorem Pk.of {d : D} (le : ∀ a o, F a = some o → Rd H a o) (h : Rep F v d) : Pk F H v d := by
  cases d with
  | tup ds => unfold Rep at h; obtain ⟨a, vs, e, ha, hl⟩ := h; exact ⟨a, vs, e, le _ _ ha, hl, ha⟩
  | lst ds => unfold Rep at h; obtain ⟨a, vs, e, ha, hl⟩ := h; exact ⟨a, vs, e, le _ _ ha, hl⟩
  | dct ds => unfold Rep at h; obtain ⟨e, a, e1, ha⟩ := h; exact ⟨e, a, e1, le _ _ ha⟩
  | _ => exact h
theorem SRel.pk {st : Loc} {w : W} {d : D} (S : SRel F ms st H) (h : Rp F ms v w) (e : pk st w = some d) : Pk F H v d := by
  cases w with
  | d x =>
    cases (show some x = some d from e)
    exact Pk.of S.le h
  | r n =>
    obtain ⟨a, ea, rfl⟩ := h
    unfold pk at e
    cases q : st[n]? with
    | none => simp [q] at e
    | some o =>
      have R := S.at_ n a o ea q
      cases o with
      | lst ws =>
        obtain ⟨_, vs, hH, hl⟩ := R
        cases u : unW ws with
        | none => simp [q, u] at e
        | some ds =>
          have : d = .lst ds := by simpa [q, u] using e.symm
          subst this
          exact ⟨a, vs, rfl, .inl hH, hl.un u⟩
      | _ => simp [q] at e
end
/-! steps of the heap -/
section
variable [sp : Spv] {F : Hp} {ms : List Addr} {st : Loc} {H : Hp} {p : Addr}
theorem SRel.notF (S : SRel F ms st H) (h : H p = none) : F p = none := by
  cases q : F p with
  | none => rfl
  | some o =>
    rcases S.le p o q with e | ⟨ob, e⟩
    · rw [h] at e; cases e
    · rw [h] at e; cases e
theorem SRel.nm (S : SRel F ms st H) (h : H p = none) : p ∉ ms := fun hm => by
  obtain ⟨n, hn⟩ := List.getElem?_of_mem hm
  have hl : n < st.length := by rw [← S.len]; exact (List.getElem?_eq_some_iff.mp hn).1
  have R := S.at_ n p _ hn (List.getElem?_eq_getElem hl)
  cases q : st[n] with
  | lst ws => rw [q] at R; obtain ⟨_, vs, e, _⟩ := R; rw [h] at e; cases e
  | dct _ => rw [q] at R; obtain ⟨_, vs, e, _⟩ := R; rw [h] at e; cases e
  | ins _ _ => rw [q] at R; exact R
  | dead => rw [q] at R; obtain ⟨o, e, _⟩ := R; rw [h] at e; cases e
/-- live or dead: an address of ms is in the heap, or dead -/
theorem Rd.upd {a : Addr} {o u : HO} (h : Rd H a o) (hp : H p = none) : Rd (upd H p u) a o := by
  rcases h with e | ⟨ob, e⟩
  · exact .inl (by rw [upd_ne (ne_of_none e hp)]; exact e)
  · exact .inr ⟨ob, by rw [upd_ne (ne_of_none e hp)]; exact e⟩
theorem KvR.mono {F1 : Hp} {ms1 : List Addr} (s : ∀ a o, F a = some o → F1 a = some o) (p : ms <+: ms1) : ∀ {kvs : List (L2.Key × V)} {ks : List (Ky × W)}, KvR F ms kvs ks → KvR F1 ms1 kvs ks
  | [], [], _ => trivial
  | _ :: _, _ :: _, h => ⟨h.1, h.2.1.mono s p, KvR.mono s p h.2.2⟩
  | [], _ :: _, h => h.elim
  | _ :: _, [], h => h.elim
theorem ObR.mono {F1 : Hp} {ms1 : List Addr} {H1 : Hp} {a : Addr} (s : ∀ a o, F a = some o → F1 a = some o) (n : F a = none → F1 a = none) (pr : ms <+: ms1) (k : ∀ o, H a = some o → H1 a = some o) : ∀ {o : Obj}, ObR F ms H a o → ObR F1 ms1 H1 a o
  | .lst ws, ⟨h0, vs, h1, h2⟩ => ⟨n h0, vs, k _ h1, h2.mono s pr⟩
  | .dct ks, ⟨h0, vs, h1, h2⟩ => ⟨n h0, vs, k _ h1, h2.mono s pr⟩
  | .ins _ _, h => h.elim
  | .dead, ⟨o, h, i⟩ => ⟨o, k o h, i⟩
theorem tabs_lay {o : HO} (h : LamX.Tabs Tbs.T H) (hp : H p = none) : LamX.Tabs Tbs.T (upd H p o) := h.ext fun b u e => by rw [upd_ne (ne_of_none e hp)]; exact e
theorem tabs_put {o u : HO} (h : LamX.Tabs Tbs.T H) (hp : H p = some u) (hu : isPl u = true) : LamX.Tabs Tbs.T (upd H p o) := fun q hq => by
  obtain ⟨ps, h1, h2, h3⟩ := h q hq
  have n1 : q.1 ≠ p := fun e => by
    rw [e, hp] at h1
    cases h1
    cases hu
  refine ⟨ps, by rw [upd_ne n1]; exact h1, h2, fun pos cv hc => ?_⟩
  obtain ⟨c, e1, e2⟩ := h3 pos cv hc
  refine ⟨c, e1, ?_⟩
  have n2 : c ≠ p := fun e => by
    rw [e, hp] at e2
    cases e2
    cases hu
  rw [upd_ne n2]
  exact e2
/-- a frozen object is laid -/
theorem SRel.lay {o : HO} (S : SRel F ms st H) (hp : H p = none) (ho : isTbl o = false := by rfl) : SRel (upd F p o) ms st (upd H p o) where
  len := S.len
  nd := S.nd
  le := fun a u h => by
    by_cases e : a = p
    · subst e
      rw [upd_same] at h
      exact .inl (by rw [upd_same]; exact h)
    · rw [upd_ne e] at h
      exact Rd.upd (S.le a u h) hp
  at_ := fun n a ob e1 e2 => by
    have hne : a ≠ p := fun q => S.nm hp (by rw [← q]; exact List.mem_of_getElem? e1)
    refine (S.at_ n a ob e1 e2).mono (fun b u h => ?_) (fun h => ?_) (List.prefix_refl _) fun u h => ?_
    · rw [upd_ne (ne_of_none h (S.notF hp))]; exact h
    · rw [upd_ne hne]; exact h
    · rw [upd_ne hne]; exact h
  nt := fun a u h => by
    by_cases e : a = p
    · rw [e, upd_same] at h; cases h; exact ho
    · rw [upd_ne e] at h; exact S.nt a u h
  tabs := tabs_lay S.tabs hp
theorem Stp.lay {o : HO} (S : SRel F ms st H) (hp : H p = none) : Stp F ms H (upd F p o) ms (upd H p o) where
  sub := fun a u h => by rw [upd_ne (ne_of_none h (S.notF hp))]; exact h
  pre := List.prefix_refl _
  keep := fun a u h _ _ => by rw [upd_ne (ne_of_none h hp)]; exact h
  new := fun a h n => absurd h n
  newF := fun a u h => by
    by_cases q : a = p
    · subst q; exact .inr (.inl (.of hp))
    · rw [upd_ne q] at h; exact .inl h
/-- a mutable object is made -/
theorem SRel.make {u : HO} {o : Obj} (S : SRel F ms st H) (hp : H p = none) (new : ObR F (ms ++ [p]) (upd H p u) p o) : SRel F (ms ++ [p]) (st ++ [o]) (upd H p u) where
  len := by simp [S.len]
  nd := by
    rw [List.nodup_append]
    exact ⟨S.nd, by simp, fun a ha b hb e => S.nm hp (by simp at hb; rw [← hb, ← e]; exact ha)⟩
  le := fun a v h => Rd.upd (S.le a v h) hp
  at_ := fun n a ob e1 e2 => by
    by_cases hn : n < ms.length
    · rw [List.getElem?_append_left hn] at e1
      rw [List.getElem?_append_left (by rw [← S.len]; exact hn)] at e2
      have hne : a ≠ p := fun q => S.nm hp (by rw [← q]; exact List.mem_of_getElem? e1)
      exact (S.at_ n a ob e1 e2).mono (fun b v h => h) (fun h => h) (List.prefix_append _ _) fun v h => by rw [upd_ne hne]; exact h
    · have hl := (List.getElem?_eq_some_iff.mp e1).1
      have : n = ms.length := by simp at hl; omega
      subst this
      rw [List.getElem?_append_right (Nat.le_refl _)] at e1
      rw [S.len, List.getElem?_append_right (Nat.le_refl _)] at e2
      simp at e1 e2
      subst e1; subst e2
      exact new
  nt := S.nt
  tabs := tabs_lay S.tabs hp
theorem Stp.make {u : HO} (hp : H p = none) : Stp F ms H F (ms ++ [p]) (upd H p u) where
  sub := fun _ _ h => h
  pre := List.prefix_append _ _
  keep := fun a v h _ _ => by rw [upd_ne (ne_of_none h hp)]; exact h
  new := fun a h n => by
    rcases List.mem_append.mp h with h | h
    · exact absurd h n
    · simp at h; subst h; exact .of hp
  newF := fun _ _ h => .inl h
/-- a mutable object is changed -/
theorem SRel.write {u z : HO} {o : Obj} {n : Nat} (S : SRel F ms st H) (e : ms[n]? = some p) (hF : F p = none) (hz : H p = some z) (new : ObR F ms (upd H p u) p o) (hi : isPl z = true := by rfl) : SRel F ms (st.set n o) (upd H p u) where
  len := by simp [S.len]
  nd := S.nd
  le := fun a v h => by
    have hne : a ≠ p := fun q => by rw [q, hF] at h; cases h
    rcases S.le a v h with z | ⟨ob, z⟩
    · exact .inl (by rw [upd_ne hne]; exact z)
    · exact .inr ⟨ob, by rw [upd_ne hne]; exact z⟩
  at_ := fun j a ob e1 e2 => by
    by_cases hj : j = n
    · subst hj
      rw [e] at e1; cases e1
      have hl : j < st.length := by rw [← S.len]; exact (List.getElem?_eq_some_iff.mp e).1
      rw [List.getElem?_set_self hl] at e2
      cases e2
      exact new
    · rw [List.getElem?_set_ne (Ne.symm hj)] at e2
      have hne : a ≠ p := fun q => by
        subst q
        exact hj (nd_ix S.nd e1 e)
      exact (S.at_ j a ob e1 e2).mono (fun b v h => h) (fun h => h) (List.prefix_refl _) fun v h => by rw [upd_ne hne]; exact h
  nt := S.nt
  tabs := tabs_put S.tabs hz hi
theorem Stp.write {u : HO} (hm : p ∈ ms) : Stp F ms H F ms (upd H p u) where
  sub := fun _ _ h => h
  pre := List.prefix_refl _
  keep := fun a v h n _ => by rw [upd_ne (fun q => n (by rw [q]; exact hm))]; exact h
  new := fun a h n => absurd h n
  newF := fun _ _ h => .inl h
/-- a mutable object is finished: it goes over to the frozen part -/
theorem SRel.frz {u : HO} {n : Nat} (S : SRel F ms st H) (e : ms[n]? = some p) (hF : F p = none) (hH : H p = some u) (hp : isPl u = true := by rfl) (hu : isTbl u = false := by rfl) : SRel (upd F p u) ms (st.set n .dead) H where
  len := by simp [S.len]
  nd := S.nd
  le := fun a v h => by
    by_cases q : a = p
    · subst q
      rw [upd_same] at h; cases h
      exact .inl hH
    · rw [upd_ne q] at h
      exact S.le a v h
  at_ := fun j a ob e1 e2 => by
    by_cases hj : j = n
    · subst hj
      have hl : j < st.length := by rw [← S.len]; exact (List.getElem?_eq_some_iff.mp e).1
      rw [List.getElem?_set_self hl] at e2
      cases e2
      rw [e] at e1; cases e1
      exact ⟨_, hH, hp⟩
    · rw [List.getElem?_set_ne (Ne.symm hj)] at e2
      have hne : a ≠ p := fun q => by
        subst q
        exact hj (nd_ix S.nd e1 e)
      exact (S.at_ j a ob e1 e2).mono (fun b v h => by rw [upd_ne (ne_of_none h hF)]; exact h) (fun h => by rw [upd_ne hne]; exact h) (List.prefix_refl _) fun v h => h
  nt := fun a v h => by
    by_cases e : a = p
    · rw [e, upd_same] at h; cases h; exact hu
    · rw [upd_ne e] at h; exact S.nt a v h
  tabs := S.tabs
theorem Stp.frz {u : HO} (hF : F p = none) (hm : p ∈ ms) : Stp F ms H (upd F p u) ms H where
  sub := fun a v h => by rw [upd_ne (ne_of_none h hF)]; exact h
  pre := List.prefix_refl _
  keep := fun _ _ h _ _ => h
  new := fun a h n => absurd h n
  newF := fun a v h => by
    by_cases q : a = p
    · subst q; exact .inr (.inr hm)
    · rw [upd_ne q] at h; exact .inl h
/-- an object beside all this changes -/
theorem SRel.side {u : HO} (S : SRel F ms st H) (hF : F p = none) (hm : p ∉ ms) (ht : LamX.Tabs Tbs.T (upd H p u)) : SRel F ms st (upd H p u) where
  len := S.len
  nd := S.nd
  le := fun a v h => by
    have hne : a ≠ p := fun q => by rw [q, hF] at h; cases h
    rcases S.le a v h with z | ⟨ob, z⟩
    · exact .inl (by rw [upd_ne hne]; exact z)
    · exact .inr ⟨ob, by rw [upd_ne hne]; exact z⟩
  at_ := fun j a ob e1 e2 => by
    have hne : a ≠ p := fun q => hm (by rw [← q]; exact List.mem_of_getElem? e1)
    exact (S.at_ j a ob e1 e2).mono (fun b v h => h) (fun h => h) (List.prefix_refl _) fun v h => by rw [upd_ne hne]; exact h
  nt := S.nt
  tabs := ht
/-- an object beside all this becomes data -/
theorem SRel.claim {u : HO} (S : SRel F ms st H) (hF : F p = none) (hm : p ∉ ms) (hH : H p = some u) (hu : isTbl u = false := by rfl) : SRel (upd F p u) ms st H where
  len := S.len
  nd := S.nd
  le := fun a v h => by
    by_cases q : a = p
    · subst q
      rw [upd_same] at h; cases h
      exact .inl hH
    · rw [upd_ne q] at h
      exact S.le a v h
  at_ := fun j a ob e1 e2 => by
    have hne : a ≠ p := fun q => hm (by rw [← q]; exact List.mem_of_getElem? e1)
    exact (S.at_ j a ob e1 e2).mono (fun b v h => by rw [upd_ne (ne_of_none h hF)]; exact h) (fun h => by rw [upd_ne hne]; exact h) (List.prefix_refl _) fun v h => h
  nt := fun a v h => by
    by_cases e : a = p
    · rw [e, upd_same] at h; cases h; exact hu
    · rw [upd_ne e] at h; exact S.nt a v h
  tabs := S.tabs
/-- .. becomes an object of the store -/
theorem SRel.adopt {o : Obj} (S : SRel F ms st H) (hm : p ∉ ms) (new : ObR F (ms ++ [p]) H p o) : SRel F (ms ++ [p]) (st ++ [o]) H where
  len := by simp [S.len]
  nd := by
    rw [List.nodup_append]
    exact ⟨S.nd, by simp, fun a ha b hb e => hm (by simp at hb; rw [← hb, ← e]; exact ha)⟩
  le := S.le
  at_ := fun n a ob e1 e2 => by
    by_cases hn : n < ms.length
    · rw [List.getElem?_append_left hn] at e1
      rw [List.getElem?_append_left (by rw [← S.len]; exact hn)] at e2
      exact (S.at_ n a ob e1 e2).mono (fun b v h => h) (fun h => h) (List.prefix_append _ _) fun v h => h
    · have hl := (List.getElem?_eq_some_iff.mp e1).1
      have : n = ms.length := by simp at hl; omega
      subst this
      rw [List.getElem?_append_right (Nat.le_refl _)] at e1
      rw [S.len, List.getElem?_append_right (Nat.le_refl _)] at e2
      simp at e1 e2
      subst e1; subst e2
      exact new
  nt := S.nt
  tabs := S.tabs
theorem RpL.back {F1 : Hp} {ms1 : List Addr} (pr : ms <+: ms1) : ∀ {ws : List W} {vs us : List V}, RpL F ms vs ws → RpL F1 ms1 us ws → RpL F1 ms us ws
  | [], [], [], _, _ => trivial
  | .d x :: ws, v :: vs, u :: us, ⟨_, t⟩, ⟨h, t1⟩ => ⟨h, RpL.back pr t t1⟩
  | .r n :: ws, v :: vs, u :: us, ⟨⟨a, e, _⟩, t⟩, ⟨⟨b, e1, h1⟩, t1⟩ => ⟨⟨a, e, by rw [pre_get pr e] at e1; cases e1; exact h1⟩, RpL.back pr t t1⟩
  | [], _ :: _, _, h, _ => h.elim
  | [], [], _ :: _, _, h => h.elim
  | _ :: _, [], _, h, _ => h.elim
  | _ :: _, _ :: _, [], _, h => h.elim
theorem Rp.back {F1 : Hp} {ms1 : List Addr} (pr : ms <+: ms1) {w : W} {v u : V} (h : Rp F ms v w) (h1 : Rp F1 ms1 u w) : Rp F1 ms u w := by
  have := RpL.back (ws := [w]) (vs := [v]) (us := [u]) pr ⟨h, trivial⟩ ⟨h1, trivial⟩
  exact this.1
theorem KvR.back {F1 : Hp} {ms1 : List Addr} (pr : ms <+: ms1) : ∀ {ks : List (Ky × W)} {vs us : List (L2.Key × V)}, KvR F ms vs ks → KvR F1 ms1 us ks → KvR F1 ms us ks
  | [], [], [], _, _ => trivial
  | _ :: _, _ :: _, _ :: _, h, h1 => ⟨h1.1, Rp.back pr h.2.1 h1.2.1, KvR.back pr h.2.2 h1.2.2⟩
  | [], _ :: _, _, h, _ => h.elim
  | [], [], _ :: _, _, h => h.elim
  | _ :: _, [], _, h, _ => h.elim
  | _ :: _, _ :: _, [], _, h => h.elim
/-- what a call made is forgotten -/
theorem SRel.cut {F1 H1 : Hp} {ms1 : List Addr} {l1 : Loc} (S : SRel F ms st H) (pr : ms <+: ms1) (S1 : SRel F1 ms1 (st ++ l1) H1) : SRel F1 ms st H1 where
  len := S.len
  nd := S.nd
  le := S1.le
  at_ := fun n a o e1 e2 => by
    have hl := (List.getElem?_eq_some_iff.mp e2).1
    have R1 := S1.at_ n a o (pre_get pr e1) (by rw [List.getElem?_append_left hl]; exact e2)
    have R := S.at_ n a o e1 e2
    cases o with
    | lst ws =>
      obtain ⟨h0, vs, h1, h2⟩ := R1
      obtain ⟨_, us, _, h3⟩ := R
      exact ⟨h0, vs, h1, RpL.back pr h3 h2⟩
    | dct ks =>
      obtain ⟨h0, vs, h1, h2⟩ := R1
      obtain ⟨_, us, _, h3⟩ := R
      exact ⟨h0, vs, h1, KvR.back pr h3 h2⟩
    | ins _ _ => exact R1
    | dead => exact R1
  nt := S1.nt
  tabs := S1.tabs
theorem Stp.cut {F1 H1 : Hp} {ms1 : List Addr} (t : Stp F ms H F1 ms1 H1) : Stp F ms H F1 ms H1 where
  sub := t.sub
  pre := List.prefix_refl _
  keep := t.keep
  new := fun a h n => absurd h n
  newF := fun a o h => by
    rcases t.newF a o h with h1 | h1 | h1
    · exact .inl h1
    · exact .inr (.inl h1)
    · by_cases hm : a ∈ ms
      · exact .inr (.inr hm)
      · exact .inr (.inl (t.new a h1 hm))
end
/-- all but tables stay -/
theorem Stp.tab {F : Hp} {ms : List Addr} {H H1 : Hp} (e : LamX.ExtN H H1) : Stp F ms H F ms H1 := ⟨fun _ _ h => h, List.prefix_refl _, fun _ _ h _ i => e _ _ h (isTbl_ne i), fun _ h n => absurd h n, fun _ _ h => .inl h⟩
theorem isPl_tbl {o : HO} (h : isPl o = true) : isTbl o = false := by cases o <;> first | rfl | cases h
theorem SRel.tab [Spv] {F : Hp} {ms : List Addr} {st : Loc} {H H1 : Hp} (S : SRel F ms st H) (e : LamX.ExtN H H1) (t : LamX.Tabs Tbs.T H1) : SRel F ms st H1 where
  len := S.len
  nd := S.nd
  le := fun a o h => by
    have i := S.nt a o h
    rcases S.le a o h with z | ⟨ob, z⟩
    · exact .inl (e _ _ z (isTbl_ne i))
    · exact .inr ⟨ob, e _ _ z (isTbl_ne rfl)⟩
  at_ := fun n a o e1 e2 => by
    have R := S.at_ n a o e1 e2
    cases o with
    | lst ws => obtain ⟨h0, vs, h1, h2⟩ := R; exact ⟨h0, vs, e _ _ h1 (isTbl_ne rfl), h2⟩
    | dct ws => obtain ⟨h0, vs, h1, h2⟩ := R; exact ⟨h0, vs, e _ _ h1 (isTbl_ne rfl), h2⟩
    | ins _ _ => exact R
    | dead => obtain ⟨u, h1, h2⟩ := R; exact ⟨u, e _ _ h1 (isTbl_ne (isPl_tbl h2)), h2⟩
  nt := S.nt
  tabs := t
/-- a code object is no object of the store -/
theorem SRel.notCode [Spv] {F : Hp} {ms : List Addr} {st : Loc} {H : Hp} {a : Addr} {q : Str} (S : SRel F ms st H) (h : H a = some (LamX.CodeO a q)) : a ∉ ms := fun hm => by
  obtain ⟨n, hn⟩ := List.getElem?_of_mem hm
  have hl : n < st.length := by rw [← S.len]; exact (List.getElem?_eq_some_iff.mp hn).1
  have R := S.at_ n a _ hn (List.getElem?_eq_getElem hl)
  cases q : st[n] with
  | lst ws => rw [q] at R; obtain ⟨_, vs, e, _⟩ := R; rw [h] at e; cases e
  | dct _ => rw [q] at R; obtain ⟨_, vs, e, _⟩ := R; rw [h] at e; cases e
  | ins _ _ => rw [q] at R; exact R
  | dead => rw [q] at R; obtain ⟨o, e, i⟩ := R; rw [h] at e; cases e; cases i
/-! from one reading of exceptions to another one -/
section
variable {sp1 sp2 : Spv} {F : Hp} {ms : List Addr} {H : Hp}
mutual
theorem Rep.conv : ∀ (d : D) (v : V), noIns d = true → @Rep sp1 F v d → @Rep sp2 F v d
  | .non, _, _, h => h
  | .bl _, _, _, h => h
  | .int _, _, _, h => h
  | .str _, _, _, h => h
  | .tup ds, v, n, h => by
    unfold Rep at h ⊢
    obtain ⟨a, vs, e, ha, hl⟩ := h
    exact ⟨a, vs, e, ha, RepL.conv ds vs (by simpa [noIns] using n) hl⟩
  | .lst ds, v, n, h => by
    unfold Rep at h ⊢
    obtain ⟨a, vs, e, ha, hl⟩ := h
    exact ⟨a, vs, e, ha, RepL.conv ds vs (by simpa [noIns] using n) hl⟩
  | .dct ds, v, n, h => by
    unfold Rep at h ⊢
    exact h
  | .ins _ _, _, n, h => by simp [noIns] at n
theorem RepL.conv : ∀ (ds : List D) (vs : List V), noInsL ds = true → @RepL sp1 F vs ds → @RepL sp2 F vs ds
  | [], _, _, h => by unfold RepL at h ⊢; exact h
  | d :: ds, vs, n, h => by
    have n' : noIns d = true ∧ noInsL ds = true := by simpa [noInsL] using n
    unfold RepL at h ⊢
    obtain ⟨v, r, e, h1, h2⟩ := h
    exact ⟨v, r, e, Rep.conv d v n'.1 h1, RepL.conv ds r n'.2 h2⟩
end
mutual
theorem Rep.noIns (z : ∀ a c ds, ¬ sp1.P a c ds) : ∀ (d : D) (v : V), @Rep sp1 F v d → noIns d = true
  | .non, _, h => rfl
  | .bl _, _, h => rfl
  | .int _, _, h => rfl
  | .str _, _, h => rfl
  | .tup ds, v, h => by
    unfold Rep at h
    obtain ⟨a, vs, e, ha, hl⟩ := h
    simpa [Vx.noIns] using RepL.noIns z ds vs hl
  | .lst ds, v, h => by
    unfold Rep at h
    obtain ⟨a, vs, e, ha, hl⟩ := h
    simpa [Vx.noIns] using RepL.noIns z ds vs hl
  | .dct ds, v, h => by
    unfold Rep at h
    obtain ⟨rfl, _⟩ := h
    rfl
  | .ins c ds, _, h => by
    unfold Rep at h
    obtain ⟨a, _, h⟩ := h
    exact absurd h (z _ _ _)
theorem RepL.noIns (z : ∀ a c ds, ¬ sp1.P a c ds) : ∀ (ds : List D) (vs : List V), @RepL sp1 F vs ds → noInsL ds = true
  | [], _, h => rfl
  | d :: ds, vs, h => by
    unfold RepL at h
    obtain ⟨v, r, e, h1, h2⟩ := h
    simp [noInsL, Rep.noIns z d v h1, RepL.noIns z ds r h2]
end
theorem Rp.conv {v : V} {w : W} (n : noInsW w = true) (h : @Rp sp1 F ms v w) : @Rp sp2 F ms v w := by
  cases w with
  | d x => exact Rep.conv x v n h
  | r n => exact h
theorem Rp.noIns (z : ∀ a c ds, ¬ sp1.P a c ds) {v : V} {w : W} (h : @Rp sp1 F ms v w) : noInsW w = true := by
  cases w with
  | d x => exact Rep.noIns z x v h
  | r n => rfl
theorem RpL.conv : ∀ {vs : List V} {ws : List W}, (∀ w ∈ ws, noInsW w = true) → @RpL sp1 F ms vs ws → @RpL sp2 F ms vs ws
  | [], [], _, _ => trivial
  | _ :: _, _ :: _, n, ⟨h, t⟩ => ⟨h.conv (n _ List.mem_cons_self), RpL.conv (fun w hw => n w (List.mem_cons_of_mem _ hw)) t⟩
  | [], _ :: _, _, h => h.elim
  | _ :: _, [], _, h => h.elim
theorem RpL.noIns (z : ∀ a c ds, ¬ sp1.P a c ds) : ∀ {vs : List V} {ws : List W}, @RpL sp1 F ms vs ws → ∀ w ∈ ws, noInsW w = true
  | [], [], _, w, hw => by cases hw
  | _ :: _, _ :: _, ⟨h, t⟩, w, hw => by
    rcases List.mem_cons.mp hw with rfl | hw
    · exact h.noIns z
    · exact RpL.noIns z t w hw
  | [], _ :: _, h, _, _ => h.elim
  | _ :: _, [], h, _, _ => h.elim
theorem KvR.conv : ∀ {kvs : List (L2.Key × V)} {ks : List (Ky × W)}, (∀ q ∈ ks, noInsW q.2 = true) → @KvR sp1 F ms kvs ks → @KvR sp2 F ms kvs ks
  | [], [], _, _ => trivial
  | _ :: _, _ :: _, n, h => ⟨h.1, h.2.1.conv (n _ List.mem_cons_self), KvR.conv (fun w hw => n w (List.mem_cons_of_mem _ hw)) h.2.2⟩
  | [], _ :: _, _, h => h.elim
  | _ :: _, [], _, h => h.elim
theorem KvR.noIns (z : ∀ a c ds, ¬ sp1.P a c ds) : ∀ {kvs : List (L2.Key × V)} {ks : List (Ky × W)}, @KvR sp1 F ms kvs ks → ∀ q ∈ ks, noInsW q.2 = true
  | [], [], _, w, hw => by cases hw
  | _ :: _, _ :: _, h, w, hw => by
    rcases List.mem_cons.mp hw with rfl | hw
    · exact h.2.1.noIns z
    · exact KvR.noIns z h.2.2 w hw
  | [], _ :: _, h, _, _ => h.elim
  | _ :: _, [], h, _, _ => h.elim
/-- an object holds no exception -/
def noInsO : Obj → Prop
  | .lst ws => ∀ w ∈ ws, noInsW w = true
  | .dct ks => ∀ q ∈ ks, noInsW q.2 = true
  | _ => True
theorem ObR.conv {a : Addr} : ∀ {o : Obj}, noInsO o → @ObR sp1 F ms H a o → @ObR sp2 F ms H a o
  | .lst _, n, ⟨h0, vs, h1, h2⟩ => ⟨h0, vs, h1, h2.conv n⟩
  | .dct _, n, ⟨h0, vs, h1, h2⟩ => ⟨h0, vs, h1, h2.conv n⟩
  | .ins _ _, _, h => h.elim
  | .dead, _, h => h
theorem ObR.noIns (z : ∀ a c ds, ¬ sp1.P a c ds) {a : Addr} : ∀ {o : Obj}, @ObR sp1 F ms H a o → noInsO o
  | .lst _, ⟨h0, vs, h1, h2⟩ => h2.noIns z
  | .dct _, ⟨h0, vs, h1, h2⟩ => h2.noIns z
  | .ins _ _, h => h.elim
  | .dead, h => trivial
theorem SRel.up {st : Loc} (z : ∀ a c ds, ¬ sp1.P a c ds) (S : @SRel _ sp1 F ms st H) : @SRel _ sp2 F ms st H := by
  obtain ⟨h1, h2, h3, h4, h5, h6⟩ := S
  exact @SRel.mk _ sp2 _ _ _ _ h1 h2 h3 (fun n a o e1 e2 => @ObR.conv _ sp1 sp2 _ _ _ _ _ (@ObR.noIns _ sp1 _ _ _ z _ _ (h4 n a o e1 e2)) (h4 n a o e1 e2)) h5 h6
theorem SRel.down {st : Loc} {F' H' : Hp} {ms' : List Addr} (z : ∀ a c ds, ¬ sp1.P a c ds) (S : @SRel _ sp1 F ms st H) (S1 : @SRel _ sp2 F' ms' st H') : @SRel _ sp1 F' ms' st H' := by
  obtain ⟨h1, h2, h3, h4, h5, h6⟩ := S
  obtain ⟨k1, k2, k3, k4, k5, k6⟩ := S1
  refine @SRel.mk _ sp1 _ _ _ _ k1 k2 k3 (fun n a o e1 e2 => @ObR.conv _ sp2 sp1 _ _ _ _ _ ?_ (k4 n a o e1 e2)) k5 k6
  have hl := (List.getElem?_eq_some_iff.mp e2).1
  have hm : n < ms.length := by rw [h1]; exact hl
  exact @ObR.noIns _ sp1 _ _ _ z _ _ (h4 n _ o (List.getElem?_eq_getElem hm) e2)
theorem EnvR.up {ρ : Env} {σ : L2.St} (z : ∀ a c ds, ¬ sp1.P a c ds) (E : @EnvR sp1 F ms ρ σ) : @EnvR sp2 F ms ρ σ := by
  obtain ⟨h1, h2⟩ := E
  refine @EnvR.mk sp2 _ _ _ _ h1 fun i w e => ?_
  obtain ⟨v, a, b⟩ := h2 i w e
  exact ⟨v, a, @Rp.conv _ sp1 sp2 _ _ _ _ (@Rp.noIns _ sp1 _ _ z _ _ b) b⟩
theorem EnvR.noIns {ρ : Env} {σ : L2.St} (z : ∀ a c ds, ¬ sp1.P a c ds) (E : @EnvR sp1 F ms ρ σ) {i : Nat} {w : W} (e : ρ[i]? = some (some w)) : noInsW w = true := by
  obtain ⟨h1, h2⟩ := E
  obtain ⟨v, a, b⟩ := h2 i w e
  exact @Rp.noIns _ sp1 _ _ z _ _ b
theorem outO_at {a b : Option W} {w : W} (h : outO a b = some w) : b = some w ∧ (a = some w ∨ noInsW w = true) := by
  unfold outO at h
  split at h
  · rename_i e
    subst e
    exact ⟨h, .inl h⟩
  · cases b with
    | none => cases h
    | some u =>
      dsimp only at h
      split at h
      · rename_i q
        cases h
        exact ⟨rfl, .inr q⟩
      · cases h
/-- what is known behind a suite -/
theorem EnvR.out {F' : Hp} {ms' : List Addr} {ρ ρ2 : Env} {σ σ2 : L2.St} {i : Nat} (z : ∀ a c ds, ¬ sp1.P a c ds) (E : @EnvR sp1 F ms ρ σ) (E2 : @EnvR sp2 F' ms' ρ2 σ2) (hl : σ.length = σ2.length) : @EnvR sp1 F' ms' (outE ρ ρ2 i) (σ2.set i none) := by
  have no := fun i w e => @EnvR.noIns _ sp1 _ _ _ _ z E i w e
  obtain ⟨l1, _⟩ := E
  obtain ⟨l2, at2⟩ := E2
  refine @EnvR.mk sp1 _ _ _ _ (by simp [outE]; omega) fun j w e => ?_
  unfold outE at e
  by_cases hj : i = j
  · subst hj
    rw [List.getElem?_set] at e
    simp only [if_true] at e
    split at e <;> cases e
  · rw [List.getElem?_set_ne hj] at e
    rw [List.getElem?_set_ne hj]
    have e' : (List.zipWith outO ρ ρ2)[j]? = some (some w) := e
    rw [List.getElem?_zipWith] at e'
    cases q1 : ρ[j]? with
    | none => rw [q1] at e'; cases e'
    | some a =>
      cases q2 : ρ2[j]? with
      | none => rw [q1, q2] at e'; cases e'
      | some b =>
        rw [q1, q2] at e'
        have e3 : outO a b = some w := by simpa using e'
        obtain ⟨rfl, h⟩ := outO_at e3
        obtain ⟨v, hv, r⟩ := at2 j w q2
        refine ⟨v, hv, @Rp.conv _ sp2 sp1 _ _ _ _ ?_ r⟩
        rcases h with rfl | h
        · exact no _ _ q1
        · exact h
end
end Vx

set_option maxHeartbeats 4000000
/-! ### operations -/
namespace Vx
open PySem PySem.Spec PyProof.Rows L2
variable [tb : Tbs] [sp : Spv]

theorem sx_append (a b : Tx) : sx a ++ sx b = sx (a ++ b) := TL.ext_tl (by rw [TL.tl_append])
theorem sx_inj {a b : Tx} (h : sx a = sx b) : a = b := congrArg TL.tl h
theorem line_eq : (sizeLine : Nat) = 16777216 := by decide

/-! list + list, wherever they are read -/
theorem op_catR {X : Cx} : OpR X (binaryOp .Add) (fun x y H Q => ∃ l b xs zs, x = .ref l ∧ y = .ref b ∧ SqL X.K H l xs ∧ SqL X.K H b zs ∧ xs.length + zs.length ≤ sizeLine ∧ ∀ p, H p = none → Q (.ref p) (upd H p (.lst (xs ++ zs)))) := by
  intro pins s σ H x y v u Q I rx ry h
  obtain ⟨l, b, xs, zs, rfl, rfl, hH, hB, hz, q⟩ := h
  cases rx
  cases ry
  obtain ⟨its, r, hl, z⟩ := I.list hH
  obtain ⟨its2, r2, hl2, z2⟩ := I.list hB
  obtain ⟨⟨cls, dd, data, sl⟩, n, ho, hc, hdd, hd⟩ := id hl
  obtain ⟨⟨cls2, dd2, data2, sl2⟩, n2, ho2, hc2, hdd2, hd2⟩ := id hl2
  simp only at hc hd hdd hc2 hd2 hdd2
  subst hc hd hdd hc2 hd2 hdd2
  have e : its.toArray ++ its2.toArray = (its ++ its2).toArray := by simp
  refine concat_meets ⟨_, ho, rfl⟩ ⟨_, ho2, rfl⟩ noFill_list_add seq_list_add PySem.F.slot_list_add PySem.F.entry_list_add (PySem.F.args_list_add_2 _ _) (list_addW l b its.toArray its2.toArray n n2 none none sl sl2 (by have := r.length; have := r2.length; simp; omega)) ⟨ho, ho2, ?_⟩
  rw [e]
  exact ⟨.ref _, _, I.lnew (t' := s.toks) (r.append r2) (by rw [List.length_append]; omega), rfl, q _ I.fresh⟩

/-! == of data -/
mutual
def toPy : D → PyData
  | .non => .none
  | .bl b => .bool b
  | .int i => .int i
  | .str s => .str (sx s)
  | .tup ds => .tuple (toPyL ds)
  | .lst ds => .list (toPyL ds)
  | .dct _ => .none
  | .ins _ _ => .none
def toPyL : List D → List PyData
  | [] => []
  | d :: ds => toPy d :: toPyL ds
end
mutual
theorem py_plain : ∀ d : D, (toPy d).plain = true
  | .non => rfl
  | .bl _ => rfl
  | .int _ => rfl
  | .str _ => rfl
  | .tup ds => by simp only [toPy, PyData.plain]; exact py_plainL ds
  | .lst ds => by simp only [toPy, PyData.plain]; exact py_plainL ds
  | .dct _ => rfl
  | .ins _ _ => rfl
theorem py_plainL : ∀ ds : List D, PyData.plainAll (toPyL ds) = true
  | [] => rfl
  | d :: ds => by simp only [toPyL, PyData.plainAll, py_plain d, py_plainL ds, Bool.and_self]
end
mutual
theorem py_depth : ∀ (n : Nat) (d : D), okD n d = true → (toPy d).depth ≤ n + 1
  | n, .non, _ => by simp [toPy, PyData.depth]
  | n, .bl _, _ => by simp [toPy, PyData.depth]
  | n, .int _, _ => by simp [toPy, PyData.depth]
  | n, .str _, _ => by simp [toPy, PyData.depth]
  | 0, .tup _, h => by simp [okD] at h
  | 0, .lst _, h => by simp [okD] at h
  | n + 1, .tup ds, h => by
    have := py_depthL n ds (by simpa [okD] using h)
    simp only [toPy, PyData.depth]; omega
  | n + 1, .lst ds, h => by
    have := py_depthL n ds (by simpa [okD] using h)
    simp only [toPy, PyData.depth]; omega
  | n, .dct _, h => by cases n <;> simp [okD] at h
  | n, .ins _ _, h => by cases n <;> simp [okD] at h
theorem py_depthL : ∀ (n : Nat) (ds : List D), okL n ds = true → PyData.depthAll (toPyL ds) ≤ n + 1
  | n, [], _ => by simp [toPyL, PyData.depthAll]
  | n, d :: ds, h => by
    have h' : okD n d = true ∧ okL n ds = true := by simpa [okL] using h
    have h1 := py_depth n d h'.1
    have h2 := py_depthL n ds h'.2
    simp only [toPyL, PyData.depthAll]; omega
end
theorem sx_beq (x y : Tx) : (sx x == sx y) = (x == y) := by
  rw [Bool.eq_iff_iff]
  simp only [beq_iff_eq]
  exact ⟨sx_inj, fun h => by rw [h]⟩
mutual
theorem py_eqv : ∀ (n m : Nat) (d e : D), okD n d = true → okD m e = true → PyData.eqv (toPy d) (toPy e) = eqD d e
  | n, m, .non, e, _, h => by cases e <;> first | rfl | (cases m <;> simp [okD] at h)
  | n, m, .bl b, e, _, h => by cases e <;> first | rfl | (cases m <;> simp [okD] at h)
  | n, m, .int b, e, _, h => by cases e <;> first | rfl | (cases m <;> simp [okD] at h)
  | n, m, .str b, e, _, h => by
    cases e <;> first | rfl | (cases m <;> simp [okD] at h; done) | skip
    simp only [toPy, PyData.eqv, eqD]
    exact sx_beq _ _
  | 0, m, .tup _, _, h, _ => by simp [okD] at h
  | 0, m, .lst _, _, h, _ => by simp [okD] at h
  | n + 1, m, .tup ds, e, h, h' => by
    cases e with
    | tup es =>
      cases m with
      | zero => simp [okD] at h'
      | succ m => simp only [toPy, PyData.eqv, eqD]; exact py_eqvL n m ds es (by simpa [okD] using h) (by simpa [okD] using h')
    | _ => first | rfl | (cases m <;> simp [okD] at h')
  | n + 1, m, .lst ds, e, h, h' => by
    cases e with
    | lst es =>
      cases m with
      | zero => simp [okD] at h'
      | succ m => simp only [toPy, PyData.eqv, eqD]; exact py_eqvL n m ds es (by simpa [okD] using h) (by simpa [okD] using h')
    | _ => first | rfl | (cases m <;> simp [okD] at h')
  | n, m, .dct _, _, h, _ => by cases n <;> simp [okD] at h
  | n, m, .ins _ _, _, h, _ => by cases n <;> simp [okD] at h
theorem py_eqvL : ∀ (n m : Nat) (ds es : List D), okL n ds = true → okL m es = true → PyData.eqvAll (toPyL ds) (toPyL es) = eqL ds es
  | n, m, [], [], _, _ => rfl
  | n, m, [], _ :: _, _, _ => rfl
  | n, m, _ :: _, [], _, _ => rfl
  | n, m, d :: ds, e :: es, h, h' => by
    have h1 : okD n d = true ∧ okL n ds = true := by simpa [okL] using h
    have h2 : okD m e = true ∧ okL m es = true := by simpa [okL] using h'
    simp only [toPyL, PyData.eqvAll, eqL, py_eqv n m d e h1.1 h2.1, py_eqvL n m ds es h1.2 h2.2]
end
section
variable {K : PySem.W.Frag} {F H : Hp}
mutual
theorem dp_rep (le : ∀ a o, F a = some o → Rd H a o) : ∀ (n : Nat) (d : D) (v : V), okD n d = true → Rep F v d → Dp K H v (toPy d)
  | n, .non, _, _, h => by cases (show _ = V.non from h); exact .non
  | n, .bl b, _, _, h => by cases (show _ = V.bl b from h); exact .bl b
  | n, .int i, _, _, h => by cases (show _ = V.int i from h); exact .int i
  | n, .str s, _, _, h => by cases (show _ = V.str (sx s) from h); exact .str _
  | 0, .tup _, _, h, _ => by simp [okD] at h
  | 0, .lst _, _, h, _ => by simp [okD] at h
  | n + 1, .tup ds, v, h, r => by
    unfold Rep at r
    obtain ⟨a, vs, rfl, ha, hl⟩ := r
    exact .tup (.inl (le _ _ ha)) (dp_repL le n ds vs (by simpa [okD] using h) hl)
  | n + 1, .lst ds, v, h, r => by
    unfold Rep at r
    obtain ⟨a, vs, rfl, ha, hl⟩ := r
    exact .lst (.inl (le _ _ ha)) (dp_repL le n ds vs (by simpa [okD] using h) hl)
  | n, .dct _, _, h, _ => by cases n <;> simp [okD] at h
  | n, .ins _ _, _, h, _ => by cases n <;> simp [okD] at h
theorem dp_repL (le : ∀ a o, F a = some o → Rd H a o) : ∀ (n : Nat) (ds : List D) (vs : List V), okL n ds = true → RepL F vs ds → DpAll K H vs (toPyL ds)
  | n, [], _, _, r => by unfold RepL at r; subst r; exact .nil
  | n, d :: ds, _, h, r => by
    have h' : okD n d = true ∧ okL n ds = true := by simpa [okL] using h
    unfold RepL at r
    obtain ⟨v, vs, rfl, h1, h2⟩ := r
    exact .cons (dp_rep le n d v h'.1 h1) (dp_repL le n ds vs h'.2 h2)
end
theorem dp_pk (le : ∀ a o, F a = some o → Rd H a o) {n : Nat} {d : D} {v : V} (h : okD n d = true) (r : Pk F H v d) : Dp K H v (toPy d) := by
  cases d with
  | tup ds =>
    obtain ⟨a, vs, rfl, ha, hl, _⟩ := r
    cases n with
    | zero => simp [okD] at h
    | succ n => exact .tup (.inl ha) (dp_repL le n ds vs (by simpa [okD] using h) hl)
  | lst ds =>
    obtain ⟨a, vs, rfl, ha, hl⟩ := r
    cases n with
    | zero => simp [okD] at h
    | succ n => exact .lst (.inl ha) (dp_repL le n ds vs (by simpa [okD] using h) hl)
  | non => exact dp_rep le n _ v h r
  | bl _ => exact dp_rep le n _ v h r
  | int _ => exact dp_rep le n _ v h r
  | str _ => exact dp_rep le n _ v h r
  | dct _ => exfalso; cases n <;> simp [okD] at h
  | ins _ _ => exact dp_rep le n _ v h r
end
theorem depth_le {n m : Nat} {A : Around} (h : n ≤ 13) (hu : A.units + 64 < cLine) : A.units + min n m < cLine := by
  have := Nat.min_le_left n m; omega

/-! the rules, by data -/
/-- what follows an operation that gives data -/
def Kd (F : Hp) (ms : List Addr) (st : Loc) (H : Hp) (Q : V → Hp → Prop) (d : D) : Prop := ∀ (F' : Hp) (H' : Hp) (z : V), Stp F ms H F' ms H' → SRel F' ms st H' → Rep F' z d → Q z H'
def OpD (X : Cx) (f : Value → Value → Sem Value) (g : D → D → Option D) : Prop :=
  ∀ (pins : List (Addr × PySem.Obj)) (s : Shared) (σ : L2.St) (H F : Hp) (ms : List Addr) (st : Loc) (x y : V) (v u : Value) (a b d : D) (Q : VK), Inv X pins σ H s → RelV x v → RelV y u → SRel F ms st H → Pk F H x a → Pk F H y b → g a b = some d → Kd F ms st H Q d →
    wpAny (model X.prog X.w) X.A (f v u) (EP X pins σ Q) X.xe s
section
variable {F : Hp} {ms : List Addr} {st : Loc} {H : Hp} {Q : V → Hp → Prop} {d : D}
theorem Kd.here (S : SRel F ms st H) (k : Kd F ms st H Q d) {z : V} (h : Rep F z d) : Q z H := k F H z Stp.refl S h
theorem Kd.lst {ds : List D} {vs : List V} (S : SRel F ms st H) (k : Kd F ms st H Q (.lst ds)) (h : RepL F vs ds) {p : Addr} (hp : H p = none) : Q (.ref p) (upd H p (.lst vs)) :=
  k _ _ _ (Stp.lay S hp) (S.lay hp) (by unfold Rep; exact ⟨p, vs, rfl, upd_same, h.mono (Stp.lay S hp).sub _ _⟩)
theorem Kd.tup {ds : List D} {vs : List V} (S : SRel F ms st H) (k : Kd F ms st H Q (.tup ds)) (h : RepL F vs ds) {p : Addr} (hp : H p = none) : Q (.ref p) (upd H p (.tup vs)) :=
  k _ _ _ (Stp.lay S hp) (S.lay hp) (by unfold Rep; exact ⟨p, vs, rfl, upd_same, h.mono (Stp.lay S hp).sub _ _⟩)
end
section
variable {X : Cx}
theorem od_add : OpD X (binaryOp .Add) addD := by
  intro pins s σ H F ms st x y v u a b d Q I rx ry S ha hb e k
  cases a <;> cases b <;> first | (simp [addD] at e; done) | skip
  · rename_i i j
    cases (show x = V.int i from ha); cases (show y = V.int j from hb)
    cases (show some (D.int (i + j)) = some d from e)
    exact op_add pins s σ H _ _ v u Q I rx ry ⟨i, j, rfl, rfl, k.here S rfl⟩
  · rename_i i j
    cases (show x = V.str (sx i) from ha); cases (show y = V.str (sx j) from hb)
    have e2 : (if i.length + j.length ≤ 16777216 then some (D.str (i ++ j)) else none) = some d := e
    split at e2
    · rename_i hl
      cases e2
      exact op_add_str pins s σ H _ _ v u Q I rx ry ⟨_, _, rfl, rfl, by rw [len_sx, len_sx, line_eq]; exact hl, k.here S (by rw [sx_append]; rfl)⟩
    · cases e2
  · rename_i i j
    obtain ⟨p, vs, rfl, hp, hl, _⟩ := ha
    obtain ⟨q, us, rfl, hq, hm, _⟩ := hb
    have e2 : (if i ≠ [] ∧ j ≠ [] ∧ i.length + j.length ≤ 16777216 then some (D.tup (i ++ j)) else none) = some d := e
    split at e2
    · rename_i hz
      cases e2
      have nv : vs ≠ [] := fun z => by
        subst z
        have := hl.len
        exact hz.1 (List.length_eq_zero_iff.mp this.symm)
      refine op_catT pins s σ H _ _ v u Q I rx ry ⟨p, q, vs, us, rfl, rfl, .inl hp, .inl hq, nv, by rw [hl.len, hm.len, line_eq]; exact hz.2.2, fun z => ?_, fun _ r hr => k.tup S (hl.append hm) hr⟩
      subst z
      exact absurd (List.length_eq_zero_iff.mp hm.len.symm) hz.2.1
    · cases e2
  · rename_i i j
    obtain ⟨p, vs, rfl, hp, hl⟩ := ha
    obtain ⟨q, us, rfl, hq, hm⟩ := hb
    have e2 : (if i.length + j.length ≤ 16777216 then some (D.lst (i ++ j)) else none) = some d := e
    split at e2
    · rename_i hz
      cases e2
      exact op_catR pins s σ H _ _ v u Q I rx ry ⟨p, q, vs, us, rfl, rfl, .inl hp, .inl hq, by rw [hl.len, hm.len, line_eq]; exact hz, fun r hr => k.lst S (hl.append hm) hr⟩
    · cases e2
theorem od_sub : OpD X (binaryOp .Sub) subD := by
  intro pins s σ H F ms st x y v u a b d Q I rx ry S ha hb e k
  cases a <;> cases b <;> first | (simp [subD] at e; done) | skip
  rename_i i j
  cases (show x = V.int i from ha); cases (show y = V.int j from hb)
  cases (show some (D.int (i - j)) = some d from e)
  exact op_sub pins s σ H _ _ v u Q I rx ry ⟨i, j, rfl, rfl, k.here S rfl⟩
theorem rep_fold (js : List Value) : ∀ m : Nat, List.foldl (fun x1 x2 => x1 ++ x2) #[] (List.replicate m js.toArray) = (List.replicate m js).flatten.toArray := fun m => by simpa using foldl_rep js m []
theorem op_repR {X : Cx} : OpR X (binaryOp .Mult) (fun x y H Q => ∃ l k xs, x = .ref l ∧ y = .int k ∧ Rd H l (.lst xs) ∧ (-(2 ^ 63) ≤ k ∧ k < 2 ^ 63) ∧ xs.length * k.toNat ≤ sizeLine ∧
    ∀ p, H p = none → Q (.ref p) (upd H p (.lst (List.replicate k.toNat xs).flatten))) := by
  rintro pins s σ H x y v u Q I rx ry ⟨l, k, xs, rfl, rfl, rd, ⟨klo, khi⟩, big, q⟩
  cases rx
  obtain ⟨tk, rfl⟩ := ry
  obtain ⟨_, js, n, rel, at_⟩ := rd.ok I.hok
  have many : js.toArray.size * k.toNat ≤ sizeLine := by simpa [rel.length] using big
  have c1 : ¬ js.toArray.size * k.toNat > (2 ^ 63 - 1) / 8 := fun z => absurd (Nat.lt_of_lt_of_le z many) (by decide)
  have c2 : ¬ (!Builtin.List.listFitsIndex k) = true := by rw [fitsIndex_both klo khi]; decide
  have c3 : ¬ Builtin.List.listTooLong (js.toArray.size * k.toNat) = true := by rw [notLongL many]; decide
  have c4 : List.replicate (if js.toArray.isEmpty = true then 0 else k.toNat) js.toArray = List.replicate k.toNat js.toArray ∨ js = [] := by
    cases js with
    | nil => exact .inr rfl
    | cons _ _ => exact .inl (by simp)
  have c5 : List.foldl (fun x1 x2 => x1 ++ x2) #[] (List.replicate (if js.toArray.isEmpty = true then 0 else k.toNat) js.toArray) = (List.replicate k.toNat js).flatten.toArray := by
    rcases c4 with z | rfl
    · rw [z, rep_fold]
    · rw [rep_fold]; simp
  refine wpAny_binaryOp_repeat_ref (T := "list") (U := "int") (by decide) ⟨_, at_, rfl⟩ (fun s' => typeIs_int s' k tk) noFill_list_mul F.fills_int_mul F.slot_int_rmul repeat_list F.slot_int_index.lookup ?_
  refine call_meets F.slot_int_rmul (typeIs_int s k tk) F.entry_int_rmul (F.args_int_rmul_2 _ _) (int___rmul___int_list k tk l js.toArray n) ⟨at_, rfl, ⟨_, at_, rfl⟩, ?_⟩
  refine call_meets F.slot_list_mul ⟨_, at_, rfl⟩ F.entry_list_mul (F.args_list_mul_2 _ _) (AutoListH.list___mul___list_int_3 l js.toArray n k tk c2 c1 c3) ⟨at_, ?_⟩
  rw [c5]
  refine ⟨.ref _, _, I.lnew (t' := s.toks) (rel.rep k.toNat) ?_, rfl, q _ I.fresh⟩
  rw [PyProof.Rows.lm_len_rep_flat, Nat.mul_comm]
  exact big
theorem RepL.rep {F : Hp} {vs : List V} {ds : List D} (h : RepL F vs ds) : ∀ n : Nat, RepL F (List.replicate n vs).flatten (List.replicate n ds).flatten
  | 0 => RepL.nil
  | n + 1 => by
    rw [List.replicate_succ, List.replicate_succ, List.flatten_cons, List.flatten_cons]
    exact h.append (RepL.rep h n)
theorem od_mul : OpD X (binaryOp .Mult) mulD := by
  intro pins s σ H F ms st x y v u a b d Q I rx ry S ha hb e k
  cases a <;> cases b <;> first | (simp [mulD] at e; done) | skip
  · rename_i i j
    cases (show x = V.int i from ha); cases (show y = V.int j from hb)
    have e2 : (if (-(2 ^ 64) < i ∧ i < 2 ^ 64) ∨ (-(2 ^ 64) < j ∧ j < 2 ^ 64) then some (D.int (i * j)) else none) = some d := e
    split at e2
    · rename_i hc
      cases e2
      exact op_mul pins s σ H _ _ v u Q I rx ry ⟨i, j, rfl, rfl, hc, k.here S rfl⟩
    · cases e2
  · rename_i ds j
    obtain ⟨p, vs, rfl, hp, hl⟩ := ha
    cases (show y = V.int j from hb)
    have e2 : (if -9223372036854775808 ≤ j ∧ j < 9223372036854775808 ∧ ds.length * j.toNat ≤ 16777216 then some (D.lst (List.replicate j.toNat ds).flatten) else none) = some d := e
    split at e2
    · rename_i hz
      cases e2
      exact op_repR pins s σ H _ _ v u Q I rx ry ⟨p, j, vs, rfl, rfl, hp, by omega, by rw [hl.len, line_eq]; exact hz.2.2, fun r hr => k.lst S (hl.rep j.toNat) hr⟩
    · cases e2
theorem od_fdiv : OpD X (binaryOp .FloorDiv) fdivD := by
  intro pins s σ H F ms st x y v u a b d Q I rx ry S ha hb e k
  cases a <;> cases b <;> first | (simp [fdivD] at e; done) | skip
  rename_i i j
  cases (show x = V.int i from ha); cases (show y = V.int j from hb)
  have e2 : (if 0 < j ∧ j < 1073741824 then some (D.int (i / j)) else none) = some d := e
  split at e2
  · rename_i hc
    cases e2
    exact op_fdiv pins s σ H _ _ v u Q I rx ry ⟨i, j, rfl, rfl, hc, k.here S rfl⟩
  · cases e2
theorem od_mod : OpD X (binaryOp .Mod) modD := by
  intro pins s σ H F ms st x y v u a b d Q I rx ry S ha hb e k
  cases a <;> cases b <;> first | (simp [modD] at e; done) | skip
  rename_i i j
  cases (show x = V.int i from ha); cases (show y = V.int j from hb)
  have e2 : (if 0 < j then some (D.int (i % j)) else none) = some d := e
  split at e2
  · rename_i hc
    cases e2
    exact op_mod pins s σ H _ _ v u Q I rx ry ⟨i, j, rfl, rfl, hc, k.here S rfl⟩
  · cases e2
theorem od_pow : OpD X (binaryOp .Pow) powD := by
  intro pins s σ H F ms st x y v u a b d Q I rx ry S ha hb e k
  cases a <;> cases b <;> first | (simp [powD] at e; done) | skip
  rename_i i j
  cases (show x = V.int i from ha); cases (show y = V.int j from hb)
  have e2 : (if 0 ≤ j ∧ j ≤ 1000000 ∧ i.natAbs < 2 ^ 64 then some (D.int (i ^ j.toNat)) else none) = some d := e
  split at e2
  · rename_i hc
    cases e2
    exact op_pow pins s σ H _ _ v u Q I rx ry ⟨i, j, rfl, rfl, hc, k.here S rfl⟩
  · cases e2
theorem od_cmp {op : CmpOp} {g : Int → Int → Bool} (ho : OpR X (compareOp op) (rI0 fun i j => .bl (g i j))) : OpD X (compareOp op) (cmpI g) := by
  intro pins s σ H F ms st x y v u a b d Q I rx ry S ha hb e k
  cases a <;> cases b <;> first | (simp [cmpI] at e; done) | skip
  rename_i i j
  cases (show x = V.int i from ha); cases (show y = V.int j from hb)
  cases (show some (D.bl (g i j)) = some d from e)
  exact ho pins s σ H _ _ v u Q I rx ry ⟨i, j, rfl, rfl, k.here S rfl⟩
theorem od_eq (hu : X.A.units + 64 < cLine) : OpD X (compareOp .Eq) (fun a b => (eqO a b).map .bl) := by
  intro pins s σ H F ms st x y v u a b d Q I rx ry S ha hb e k
  dsimp only [eqO] at e
  by_cases hc : (okD 12 a && okD 12 b) = true
  · rw [if_pos hc] at e
    cases e
    obtain ⟨h1, h2⟩ := Bool.and_eq_true_iff.mp hc
    obtain ⟨as, r1⟩ := Dp.reads I (toPy a) x v (dp_pk S.le h1 ha) rx
    obtain ⟨bs, r2⟩ := Dp.reads I (toPy b) y u (dp_pk S.le h2 hb) ry
    refine SeqAt.eq_plain r1 r2 (py_plain a) (py_plain b) (depth_le (py_depth 12 a h1) hu) ?_
    rw [py_eqv 12 12 a b h1 h2]
    exact ⟨.bl _, H, I, rfl, k.here S rfl⟩
  · rw [if_neg hc] at e; cases e
theorem od_ne (hu : X.A.units + 64 < cLine) : OpD X (compareOp .NotEq) (fun a b => (eqO a b).map fun t => .bl (!t)) := by
  intro pins s σ H F ms st x y v u a b d Q I rx ry S ha hb e k
  dsimp only [eqO] at e
  by_cases hc : (okD 12 a && okD 12 b) = true
  · rw [if_pos hc] at e
    cases e
    obtain ⟨h1, h2⟩ := Bool.and_eq_true_iff.mp hc
    obtain ⟨as, r1⟩ := Dp.reads I (toPy a) x v (dp_pk S.le h1 ha) rx
    obtain ⟨bs, r2⟩ := Dp.reads I (toPy b) y u (dp_pk S.le h2 hb) ry
    refine SeqAt.ne_plain r1 r2 (py_plain a) (py_plain b) (depth_le (py_depth 12 a h1) hu) ?_
    rw [py_eqv 12 12 a b h1 h2]
    exact ⟨.bl _, H, I, rfl, k.here S rfl⟩
  · rw [if_neg hc] at e; cases e
theorem any_py (n m : Nat) : ∀ (ds : List D) (d : D), okL n ds = true → okD m d = true → ((toPyL ds).any fun y => y.eqv (toPy d)) = anyD d ds
  | [], _, _, _ => rfl
  | x :: ds, d, h, h' => by
    have h1 : okD n x = true ∧ okL n ds = true := by simpa [okL] using h
    simp only [toPyL, List.any_cons, anyD, py_eqv n m x d h1.1 h', any_py n m ds d h1.2 h']
theorem depthL_le {n m : Nat} {A : Around} (h : n ≤ 13) (hu : A.units + 64 < cLine) : A.units + 1 + min n m < cLine := by
  have := Nat.min_le_left n m; omega
/-- the two forms of in -/
inductive InK (F H : Hp) (x y : V) (a b : D) (t : Bool) : Prop where
  | str (c : Nat) (s : Tx) (ea : a = .str [c]) (eb : b = .str s) (et : t = decide (c ∈ s))
  | lst (ds : List D) (eb : b = .lst ds) (h1 : okD 12 a = true) (h2 : okL 12 ds = true) (et : t = anyD a ds)
  | tup (ds : List D) (eb : b = .tup ds) (h1 : okD 12 a = true) (h2 : okL 12 ds = true) (et : t = anyD a ds)
theorem inK {F H : Hp} {x y : V} {a b : D} {t : Bool} (e : inO a b = some t) : InK F H x y a b t := by
  unfold inO at e
  split at e
  · exact .str _ _ rfl rfl (by simpa using e.symm)
  · split at e
    · rename_i h
      obtain ⟨h1, h2⟩ := Bool.and_eq_true_iff.mp h
      exact .lst _ rfl h1 h2 (by simpa using e.symm)
    · cases e
  · split at e
    · rename_i h
      obtain ⟨h1, h2⟩ := Bool.and_eq_true_iff.mp h
      exact .tup _ rfl h1 h2 (by simpa using e.symm)
    · cases e
  · cases e
theorem od_in (hu : X.A.units + 64 < cLine) : OpD X (compareOp .In) (fun a b => (inO a b).map .bl) := by
  intro pins s σ H F ms st x y v u a b d Q I rx ry S ha hb e k
  dsimp only at e
  cases q : inO a b with
  | none => rw [q] at e; cases e
  | some t =>
    rw [q] at e; cases e
    cases inK (F := F) (H := H) (x := x) (y := y) q with
    | str c z ea eb et =>
      subst ea eb et
      cases (show x = V.str (sx [c]) from ha); cases (show y = V.str (sx z) from hb)
      exact op_in_sign pins s σ H _ _ v u Q I rx ry ⟨c, sx z, rfl, rfl, k.here S rfl⟩
    | lst ds eb h1 h2 et =>
      subst eb et
      obtain ⟨as, r1⟩ := Dp.reads I (toPy a) x v (dp_pk S.le h1 ha) rx
      obtain ⟨bs, r2⟩ := Dp.reads I (toPy (.lst ds)) y u (dp_pk S.le (n := 13) (by simpa [okD] using h2) hb) ry
      refine SeqAt.in_list_data (xs := toPyL ds) r2 r1 (py_plainL ds) (py_plain a) (depthL_le (py_depthL 12 ds h2) hu) ?_
      rw [any_py 12 12 ds a h2 h1]
      exact ⟨.bl _, H, I, rfl, k.here S rfl⟩
    | tup ds eb h1 h2 et =>
      subst eb et
      obtain ⟨as, r1⟩ := Dp.reads I (toPy a) x v (dp_pk S.le h1 ha) rx
      obtain ⟨bs, r2⟩ := Dp.reads I (toPy (.tup ds)) y u (dp_pk S.le (n := 13) (by simpa [okD] using h2) hb) ry
      refine SeqAt.in_tuple_data (xs := toPyL ds) r2 r1 (py_plainL ds) (py_plain a) (depthL_le (py_depthL 12 ds h2) hu) ?_
      rw [any_py 12 12 ds a h2 h1]
      exact ⟨.bl _, H, I, rfl, k.here S rfl⟩
theorem od_notin (hu : X.A.units + 64 < cLine) : OpD X (compareOp .NotIn) (fun a b => (inO a b).map fun t => .bl (!t)) := by
  intro pins s σ H F ms st x y v u a b d Q I rx ry S ha hb e k
  dsimp only at e
  cases q : inO a b with
  | none => rw [q] at e; cases e
  | some t =>
    rw [q] at e; cases e
    cases inK (F := F) (H := H) (x := x) (y := y) q with
    | str c z ea eb et =>
      subst ea eb et
      cases (show x = V.str (sx [c]) from ha); cases (show y = V.str (sx z) from hb)
      exact op_notIn_sign pins s σ H _ _ v u Q I rx ry ⟨c, sx z, rfl, rfl, k.here S rfl⟩
    | lst ds eb h1 h2 et =>
      subst eb et
      obtain ⟨as, r1⟩ := Dp.reads I (toPy a) x v (dp_pk S.le h1 ha) rx
      obtain ⟨bs, r2⟩ := Dp.reads I (toPy (.lst ds)) y u (dp_pk S.le (n := 13) (by simpa [okD] using h2) hb) ry
      refine SeqAt.notIn_list_data (xs := toPyL ds) r2 r1 (py_plainL ds) (py_plain a) (depthL_le (py_depthL 12 ds h2) hu) ?_
      rw [any_py 12 12 ds a h2 h1]
      exact ⟨.bl _, H, I, rfl, k.here S rfl⟩
    | tup ds eb h1 h2 et =>
      subst eb et
      obtain ⟨as, r1⟩ := Dp.reads I (toPy a) x v (dp_pk S.le h1 ha) rx
      obtain ⟨bs, r2⟩ := Dp.reads I (toPy (.tup ds)) y u (dp_pk S.le (n := 13) (by simpa [okD] using h2) hb) ry
      refine SeqAt.notIn_tuple_data (xs := toPyL ds) r2 r1 (py_plainL ds) (py_plain a) (depthL_le (py_depthL 12 ds h2) hu) ?_
      rw [any_py 12 12 ds a h2 h1]
      exact ⟨.bl _, H, I, rfl, k.here S rfl⟩

/-! by values of the store -/
def Kw (F : Hp) (ms : List Addr) (st : Loc) (H : Hp) (Q : V → Hp → Prop) (w : W) : Prop := ∀ (F' : Hp) (H' : Hp) (z : V), Stp F ms H F' ms H' → SRel F' ms st H' → Rp F' ms z w → Q z H'
def OpW (X : Cx) (f : Value → Value → Sem Value) (g : Loc → W → W → Option W) : Prop :=
  ∀ (pins : List (Addr × PySem.Obj)) (s : Shared) (σ : L2.St) (H F : Hp) (ms : List Addr) (st : Loc) (x y : V) (v u : Value) (a b d : W) (Q : VK), Inv X pins σ H s → RelV x v → RelV y u → SRel F ms st H → Rp F ms x a → Rp F ms y b → g st a b = some d → Kw F ms st H Q d →
    wpAny (model X.prog X.w) X.A (f v u) (EP X pins σ Q) X.xe s
theorem ow_of {f : Value → Value → Sem Value} {g : D → D → Option D} (h : OpD X f g) : OpW X f (fun st x y => (pk st x).bind fun a => (pk st y).bind fun b => (g a b).map .d) := by
  intro pins s σ H F ms st x y v u a b d Q I rx ry S ha hb e k
  dsimp only at e
  cases q1 : pk st a with
  | none => rw [q1] at e; cases e
  | some a' =>
    cases q2 : pk st b with
    | none => rw [q1, q2] at e; cases e
    | some b' =>
      cases q3 : g a' b' with
      | none => rw [q1, q2] at e; simp [q3] at e
      | some d' =>
        rw [q1, q2] at e
        simp [q3] at e
        subst e
        exact h pins s σ H F ms st x y v u a' b' d' Q I rx ry S (S.pk ha q1) (S.pk hb q2) q3 fun F' H' z t S' r => k F' H' z t S' r
theorem isNone_rep {F : Hp} {ms : List Addr} {x : V} {a : W} (h : Rp F ms x a) : decide (x = .non) = isNone a := by
  cases a with
  | r n =>
    obtain ⟨p, _, rfl⟩ := h
    rfl
  | d d =>
    cases d with
    | non => cases (show x = V.non from h); rfl
    | bl _ => cases (show x = V.bl _ from h); rfl
    | int _ => cases (show x = V.int _ from h); rfl
    | str _ => cases (show x = V.str _ from h); rfl
    | tup ds => obtain ⟨p, vs, rfl, _⟩ := (show Rep F x (.tup ds) from h); rfl
    | lst ds => obtain ⟨p, vs, rfl, _⟩ := (show Rep F x (.lst ds) from h); rfl
    | dct ds => obtain ⟨_, p, rfl, _⟩ := (show Rep F x (.dct ds) from h); rfl
    | ins c ds => obtain ⟨p, rfl, _⟩ := (show Rep F x (.ins c ds) from h); rfl
theorem isO_cases {a b : W} {t : Bool} (e : isO a b = some t) : (b = .d .non ∧ t = isNone a) ∨ ∃ i j, a = .d (.bl i) ∧ b = .d (.bl j) ∧ t = (i == j) := by
  unfold isO at e
  split at e
  · exact .inl ⟨rfl, by simpa using e.symm⟩
  · exact .inr ⟨_, _, rfl, rfl, by simpa using e.symm⟩
  · cases e
theorem ow_is : OpW X (compareOp .Is) (fun _ x y => (isO x y).map fun t => .d (.bl t)) := by
  intro pins s σ H F ms st x y v u a b d Q I rx ry S ha hb e k
  dsimp only at e
  cases q : isO a b with
  | none => rw [q] at e; cases e
  | some t =>
    rw [q] at e; cases e
    rcases isO_cases q with ⟨rfl, rfl⟩ | ⟨i, j, rfl, rfl, rfl⟩
    · cases (show y = V.non from hb)
      exact op_isN pins s σ H _ _ v u Q I rx ry ⟨rfl, by rw [isNone_rep ha]; exact k F H _ Stp.refl S rfl⟩
    · cases (show x = V.bl i from ha); cases (show y = V.bl j from hb)
      refine op_is_bl pins s σ H _ _ v u Q I rx ry ⟨i, j, rfl, rfl, ?_⟩
      rw [← Bool.beq_eq_decide_eq]
      exact k F H _ Stp.refl S rfl
theorem ow_isnot : OpW X (compareOp .IsNot) (fun _ x y => (isO x y).map fun t => .d (.bl (!t))) := by
  intro pins s σ H F ms st x y v u a b d Q I rx ry S ha hb e k
  dsimp only at e
  cases q : isO a b with
  | none => rw [q] at e; cases e
  | some t =>
    rw [q] at e; cases e
    rcases isO_cases q with ⟨rfl, rfl⟩ | ⟨i, j, rfl, rfl, rfl⟩
    · cases (show y = V.non from hb)
      exact op_notN pins s σ H _ _ v u Q I rx ry ⟨rfl, by rw [isNone_rep ha]; exact k F H _ Stp.refl S rfl⟩
    · cases (show x = V.bl i from ha); cases (show y = V.bl j from hb)
      refine op_isnot_bl pins s σ H _ _ v u Q I rx ry ⟨i, j, rfl, rfl, ?_⟩
      rw [← Bool.beq_eq_decide_eq]
      exact k F H _ Stp.refl S rfl
/-- which of the model's operations an Op2 is -/
def okBin : Op2 → Operator → Bool
  | .add, .Add => true | .sub, .Sub => true | .mul, .Mult => true | .fdiv, .FloorDiv => true | .mod, .Mod => true | .pow, .Pow => true
  | _, _ => false
def okCmp : Op2 → CmpOp → Bool
  | .eq, .Eq => true | .ne, .NotEq => true | .lt, .Lt => true | .le, .LtE => true | .gt, .Gt => true | .ge, .GtE => true
  | .isin, .In => true | .notin, .NotIn => true | .isv, .Is => true | .isnot, .IsNot => true
  | _, _ => false
theorem ow_bin {o : Op2} {op : Operator} (h : okBin o op = true) : OpW X (binaryOp op) (fun st => op2W st o) := by
  cases o <;> cases op <;> first | (simp [okBin] at h; done) | skip
  · exact ow_of od_add
  · exact ow_of od_sub
  · exact ow_of od_mul
  · exact ow_of od_fdiv
  · exact ow_of od_mod
  · exact ow_of od_pow
/-! dicts -/
theorem keyOf_inj {a b : Ky} (h : keyOf a = keyOf b) : a = b := by
  cases a <;> cases b
  · cases h; rfl
  · cases h
  · cases h
  · rename_i x y
    have : sx x = sx y := Sum.inr.inj h
    rw [sx_inj this]
theorem KvR.val {F : Hp} {ms : List Addr} (k : Ky) : ∀ {ks : List (Ky × W)} {kvs : List (L2.Key × V)}, KvR F ms kvs ks → match getK ks k with
    | none => valV kvs (keyOf k) = none
    | some w => ∃ v, valV kvs (keyOf k) = some v ∧ Rp F ms v w
  | [], [], _ => rfl
  | q :: ks, p :: kvs, h => by
    by_cases e : q.1 = k
    · have e2 : p.1 = keyOf k := by rw [h.1, e]
      have e3 : getK (q :: ks) k = some q.2 := by simp [getK, e]
      rw [e3]
      exact ⟨p.2, valV_pos e2, h.2.1⟩
    · have e2 : ¬ p.1 = keyOf k := by rw [h.1]; exact fun z => e (keyOf_inj z)
      have e3 : getK (q :: ks) k = getK ks k := by simp [getK, e]
      rw [e3, valV_neg e2]
      exact KvR.val k h.2.2
  | [], _ :: _, h => h.elim
  | _ :: _, [], h => h.elim
theorem KvR.len {F : Hp} {ms : List Addr} : ∀ {ks : List (Ky × W)} {kvs : List (L2.Key × V)}, KvR F ms kvs ks → kvs.length = ks.length
  | [], [], _ => rfl
  | _ :: _, _ :: _, h => by simp [KvR.len h.2.2]
  | [], _ :: _, h => h.elim
  | _ :: _, [], h => h.elim
theorem KvR.any {F : Hp} {ms : List Addr} (k : Ky) : ∀ {ks : List (Ky × W)} {kvs : List (L2.Key × V)}, KvR F ms kvs ks → (kvs.any fun p => decide (p.1 = keyOf k)) = ks.any fun p => decide (p.1 = k)
  | [], [], _ => rfl
  | q :: ks, p :: kvs, h => by
    have e : decide (p.1 = keyOf k) = decide (q.1 = k) := by
      rw [decide_eq_decide, h.1]
      exact ⟨keyOf_inj, fun z => by rw [z]⟩
    rw [List.any_cons, List.any_cons, e, KvR.any k h.2.2]
  | [], _ :: _, h => h.elim
  | _ :: _, [], h => h.elim
theorem KvR.map {F : Hp} {ms : List Addr} {k : Ky} {v : V} {w : W} (p : Rp F ms v w) : ∀ {ks : List (Ky × W)} {kvs : List (L2.Key × V)}, KvR F ms kvs ks → KvR F ms (kvs.map fun p => if p.1 = keyOf k then (p.1, v) else p) (ks.map fun p => if p.1 = k then (p.1, w) else p)
  | [], [], _ => trivial
  | q :: ks, r :: kvs, h => by
    rw [List.map_cons, List.map_cons]
    by_cases e : q.1 = k
    · have e2 : r.1 = keyOf k := by rw [h.1, e]
      rw [if_pos e, if_pos e2]
      exact ⟨h.1, p, KvR.map p h.2.2⟩
    · have e2 : ¬ r.1 = keyOf k := by rw [h.1]; exact fun z => e (keyOf_inj z)
      rw [if_neg e, if_neg e2]
      exact ⟨h.1, h.2.1, KvR.map p h.2.2⟩
  | [], _ :: _, h => h.elim
  | _ :: _, [], h => h.elim
theorem KvR.snoc {F : Hp} {ms : List Addr} {k : Ky} {v : V} {w : W} (p : Rp F ms v w) : ∀ {ks : List (Ky × W)} {kvs : List (L2.Key × V)}, KvR F ms kvs ks → KvR F ms (kvs ++ [(keyOf k, v)]) (ks ++ [(k, w)])
  | [], [], _ => ⟨rfl, p, trivial⟩
  | _ :: _, _ :: _, h => ⟨h.1, h.2.1, KvR.snoc p h.2.2⟩
  | [], _ :: _, h => h.elim
  | _ :: _, [], h => h.elim
theorem KvR.put {F : Hp} {ms : List Addr} {ks : List (Ky × W)} {kvs : List (L2.Key × V)} {k : Ky} {v : V} {w : W} (h : KvR F ms kvs ks) (p : Rp F ms v w) : KvR F ms (putK kvs (keyOf k) v) (putKy ks k w) := by
  unfold putK putKy
  rw [h.any k]
  split
  · exact h.map p
  · exact h.snoc p
theorem dKy_rep {F : Hp} {y : V} {x : D} {k : Ky} (h : Rep F y x) (e : dKy x = some k) : y = kV (keyOf k) := by
  cases x <;> first | (cases e; done) | skip
  · cases e; exact h
  · cases e; exact h
theorem inW_pk {st : Loc} {x y : W} {t : Bool} (h : inW st x y = some t) : (∃ n ks k ky, y = .r n ∧ st[n]? = some (.dct ks) ∧ x = .d k ∧ dKy k = some ky ∧ t = (getK ks ky).isSome) ∨ ((pk st x).bind fun a => (pk st y).bind fun b => inO a b) = some t := by
  unfold inW at h
  cases y with
  | d z => exact .inr h
  | r n =>
    dsimp only at h
    cases q : st[n]? with
    | none => rw [q] at h; exact .inr h
    | some ob =>
      rw [q] at h
      cases ob with
      | dct ks =>
        cases x with
        | r m => cases h
        | d k =>
          dsimp only at h
          cases q2 : dKy k with
          | none => rw [q2] at h; cases h
          | some ky =>
            rw [q2] at h
            cases h
            exact .inl ⟨n, ks, k, ky, rfl, q, rfl, q2, rfl⟩
      | lst _ => exact .inr h
      | ins _ _ => exact .inr h
      | dead => exact .inr h
theorem ow_in (hu : X.A.units + 64 < cLine) : OpW X (compareOp .In) (fun st x y => (inW st x y).map fun t => .d (.bl (t))) := by
  intro pins s σ H F ms st x y v u a b d Q I rx ry S ha hb e k
  dsimp only at e
  cases q : inW st a b with
  | none => rw [q] at e; cases e
  | some t =>
    rw [q] at e
    cases e
    rcases inW_pk q with ⟨n, ks, kk, ky, rfl, q1, rfl, q2, rfl⟩ | q1
    · obtain ⟨p, hp, rfl⟩ := hb
      obtain ⟨_, kvs, hH, hl⟩ := S.at_ n p _ hp q1
      have ey := dKy_rep ha q2
      subst ey
      cases ry
      have hv := hl.val ky
      cases qg : getK ks ky with
      | none =>
        rw [qg] at hv
        have g : DGet H p (kV (keyOf ky)) none := by rw [← hv]; exact DGet.k hH
        rw [qg] at k
        exact d_in (by omega) I g rx fun s' I' => ⟨.bl (false), H, I', rfl, k F H _ Stp.refl S rfl⟩
      | some w =>
        rw [qg] at hv
        obtain ⟨z, hz, _⟩ := hv
        have g : DGet H p (kV (keyOf ky)) (some z) := by rw [← hz]; exact DGet.k hH
        rw [qg] at k
        exact d_in (by omega) I g rx fun s' I' => ⟨.bl (true), H, I', rfl, k F H _ Stp.refl S rfl⟩
    · refine ow_of (od_in hu) pins s σ H F ms st x y v u a b (.d (.bl (t))) Q I rx ry S ha hb ?_ k
      dsimp only
      cases p1 : pk st a with
      | none => rw [p1] at q1; cases q1
      | some a' =>
        cases p2 : pk st b with
        | none => rw [p1, p2] at q1; cases q1
        | some b' =>
          have q3 : inO a' b' = some t := by rw [p1, p2] at q1; exact q1
          simp [q3]
theorem ow_notin (hu : X.A.units + 64 < cLine) : OpW X (compareOp .NotIn) (fun st x y => (inW st x y).map fun t => .d (.bl (!t))) := by
  intro pins s σ H F ms st x y v u a b d Q I rx ry S ha hb e k
  dsimp only at e
  cases q : inW st a b with
  | none => rw [q] at e; cases e
  | some t =>
    rw [q] at e
    cases e
    rcases inW_pk q with ⟨n, ks, kk, ky, rfl, q1, rfl, q2, rfl⟩ | q1
    · obtain ⟨p, hp, rfl⟩ := hb
      obtain ⟨_, kvs, hH, hl⟩ := S.at_ n p _ hp q1
      have ey := dKy_rep ha q2
      subst ey
      cases ry
      have hv := hl.val ky
      cases qg : getK ks ky with
      | none =>
        rw [qg] at hv
        have g : DGet H p (kV (keyOf ky)) none := by rw [← hv]; exact DGet.k hH
        rw [qg] at k
        exact d_notIn (by omega) I g rx fun s' I' => ⟨.bl (true), H, I', rfl, k F H _ Stp.refl S rfl⟩
      | some w =>
        rw [qg] at hv
        obtain ⟨z, hz, _⟩ := hv
        have g : DGet H p (kV (keyOf ky)) (some z) := by rw [← hz]; exact DGet.k hH
        rw [qg] at k
        exact d_notIn (by omega) I g rx fun s' I' => ⟨.bl (false), H, I', rfl, k F H _ Stp.refl S rfl⟩
    · refine ow_of (od_notin hu) pins s σ H F ms st x y v u a b (.d (.bl (!t))) Q I rx ry S ha hb ?_ k
      dsimp only
      cases p1 : pk st a with
      | none => rw [p1] at q1; cases q1
      | some a' =>
        cases p2 : pk st b with
        | none => rw [p1, p2] at q1; cases q1
        | some b' =>
          have q3 : inO a' b' = some t := by rw [p1, p2] at q1; exact q1
          simp [q3]
theorem ow_cmp {o : Op2} {op : CmpOp} (hu : X.A.units + 64 < cLine) (h : okCmp o op = true) : OpW X (compareOp op) (fun st => op2W st o) := by
  cases o <;> cases op <;> first | (simp [okCmp] at h; done) | skip
  · exact ow_of (od_eq hu)
  · exact ow_of (od_ne hu)
  · exact ow_of (od_cmp op_lt)
  · exact ow_of (od_cmp op_le)
  · exact ow_of (od_cmp op_gt)
  · exact ow_of (od_cmp op_ge)
  · exact ow_in hu
  · exact ow_notin hu
  · exact ow_is
  · exact ow_isnot

/-! truth -/
theorem sx_truth (s : Tx) : ((((sx s).length : Nat) : Int) != 0) = !s.isEmpty := by
  rw [len_sx]
  cases s with
  | nil => rfl
  | cons c r =>
    simp only [List.length_cons, List.isEmpty_cons, Bool.not_false, bne_iff_ne, ne_eq]
    omega
theorem isEmpty_len {α β : Type} {xs : List α} {ys : List β} (h : xs.length = ys.length) : xs.isEmpty = ys.isEmpty := by
  cases xs <;> cases ys <;> simp_all
theorem tr_ok {pins : List (Addr × PySem.Obj)} {s : Shared} {σ : L2.St} {H F : Hp} {ms : List Addr} {st : Loc} {x : V} {v : Value} {a : W} {t : Bool} {Q : Bool → Hp → Prop}
    (I : Inv X pins σ H s) (rx : RelV x v) (S : SRel F ms st H) (ha : Rp F ms x a) (e : trW st a = some t) (k : Q t H) : wpAny (model X.prog X.w) X.A (truthy v) (TP X pins σ Q) X.xe s := by
  unfold trW at e
  cases q : pk st a with
  | none => rw [q] at e; cases e
  | some d =>
    have e2 : trD d = some t := by rw [q] at e; exact e
    have P := S.pk ha q
    refine tru_ok pins s σ H x v Q I rx ⟨t, ?_, k⟩
    cases d with
    | non => cases (show x = V.non from P); cases (show some false = some t from e2); rfl
    | bl b => cases (show x = V.bl b from P); cases (show some b = some t from e2); rfl
    | int i => cases (show x = V.int i from P); cases (show some (i != 0) = some t from e2); rfl
    | str z =>
      cases (show x = V.str (sx z) from P)
      have e3 : (if z.length ≤ 16777216 then some (!z.isEmpty) else none) = some t := e2
      split at e3
      · rename_i hz
        cases e3
        exact ⟨by rw [len_sx, line_eq]; exact hz, (sx_truth z).symm⟩
      · cases e3
    | tup ds =>
      obtain ⟨p, vs, rfl, hp, hl, _⟩ := P
      cases (show some (!ds.isEmpty) = some t from e2)
      exact .inr (.inl ⟨vs, .inl hp, by rw [isEmpty_len hl.len]⟩)
    | lst ds =>
      obtain ⟨p, vs, rfl, hp, hl⟩ := P
      cases (show some (!ds.isEmpty) = some t from e2)
      exact .inl ⟨vs, .inl hp, by rw [isEmpty_len hl.len]⟩
    | dct _ => cases (show none = some t from e2)
    | ins _ _ => cases (show none = some t from e2)

/-! subscripts -/
theorem atI_rep {F : Hp} {vs : List V} {ds : List D} {i : Int} {d : D} (h : RepL F vs ds) (e : atD ds i = some d) : ∃ v, atI vs i = some v ∧ Rep F v d := by
  unfold atD atI at e
  unfold atI
  rw [h.len]
  cases q : ixN ds.length i with
  | none => rw [q] at e; cases e
  | some j =>
    rw [q] at e
    obtain ⟨v, a, b⟩ := h.get (i := j) e
    exact ⟨v, a, b⟩
theorem atI_rp {F : Hp} {ms : List Addr} {vs : List V} {ws : List W} {i : Int} {w : W} (h : RpL F ms vs ws) (e : atD ws i = some w) : ∃ v, atI vs i = some v ∧ Rp F ms v w := by
  unfold atD atI at e
  unfold atI
  rw [h.len]
  cases q : ixN ws.length i with
  | none => rw [q] at e; cases e
  | some j =>
    rw [q] at e
    obtain ⟨v, a, b⟩ := h.get (i := j) e
    exact ⟨v, a, b⟩
/-- d[y] of a dict's object, behind both -/
theorem tail_dict {prog : Program} {w : World} {A : Around} {E : Value → Shared → Prop} {s : Shared} {value slice : Expr} {o i : Value} {Q : Value → Shared → Prop} (hT : s.TypeIs o "dict")
    (hs : subscripted slice false o i = operate [o, i] (getItem o i)) (h : wpAny (model prog w) A (getItem o i) Q E s) : wpAny (model prog w) A (subscriptTail value slice o i) Q E s := by
  have tl : wpAny (model prog w) A (subscripted slice false o i) (fun r s₃ => wpAny (model prog w) A (letTemporaryGo value o r >>= fun _ => pure r) Q E s₃) E s := by
    rw [hs]
    exact wpAny_operating (thn h fun r s₃ z => wpAny_bind (wpAny_letTemporaryGo (wpAny_pure z)))
  unfold subscriptTail
  rw [getitemInPython_of_ne hT.not_modules]
  refine wpAny_bind (wpAny_bind (wpAny_specialOf hT PySem.F.slot_dict_getitem.lookup ?_))
  first | exact wpAny_pure (wpAny_bind tl) | exact wpAny_bind (wpAny_pure (wpAny_bind tl)) | exact wpAny_bind tl
theorem ix_ok (hu : X.A.units + 1 < cLine) {value slice : Expr} {pins : List (Addr × PySem.Obj)} {s : Shared} {σ : L2.St} {H F : Hp} {ms : List Addr} {st : Loc} {x y : V} {v u : Value} {a b w : W} {Q : VK}
    (I : Inv X pins σ H s) (rx : RelV x v) (ry : RelV y u) (S : SRel F ms st H) (ha : Rp F ms x a) (hb : Rp F ms y b) (e : idxW st a b = some w) (k : Kw F ms st H Q w)
    (hs : subscripted slice false v u = operate [v, u] (getItem v u)) : wpAny (model X.prog X.w) X.A (subscriptTail value slice v u) (EP X pins σ Q) X.xe s := by
  unfold idxW at e
  split at e
  · rename_i ds i
    cases q : atD ds i with
    | none => rw [q] at e; cases e
    | some d =>
      rw [q] at e; cases e
      obtain ⟨p, vs, rfl, hp, hl⟩ := (show Rep F x (.lst ds) from ha)
      cases (show y = V.int i from hb)
      obtain ⟨z, hz, hr⟩ := atI_rep hl q
      exact ix_list value slice pins s σ H _ _ v u Q I rx ry ⟨p, vs, i, z, rfl, rfl, .inl (S.le _ _ hp), hz, k F H z Stp.refl S hr⟩ hs
  · rename_i ds i
    cases q : atD ds i with
    | none => rw [q] at e; cases e
    | some d =>
      rw [q] at e; cases e
      obtain ⟨p, vs, rfl, hp, hl⟩ := (show Rep F x (.tup ds) from ha)
      cases (show y = V.int i from hb)
      obtain ⟨z, hz, hr⟩ := atI_rep hl q
      exact ix_tup value slice pins s σ H _ _ v u Q I rx ry ⟨p, vs, i, z, rfl, rfl, .inl (S.le _ _ hp), hz, k F H z Stp.refl S hr⟩ hs
  · rename_i z i
    split at e
    · rename_i hz
      cases q : atD z i with
      | none => rw [q] at e; cases e
      | some c =>
        rw [q] at e; cases e
        cases (show x = V.str (sx z) from ha)
        cases (show y = V.int i from hb)
        exact ix_str value slice pins s σ H _ _ v u Q I rx ry ⟨_, i, c, rfl, rfl, by rw [len_sx, line_eq]; exact hz, q, k F H _ Stp.refl S rfl⟩ hs
    · cases e
  · rename_i n kk
    obtain ⟨p, hp, rfl⟩ := ha
    cases q : st[n]? with
    | none => rw [q] at e; cases e
    | some o =>
      rw [q] at e
      cases o with
      | lst ws =>
        cases kk <;> first | (cases e; done) | skip
        rename_i i
        cases (show y = V.int i from hb)
        obtain ⟨_, vs, hH, hl⟩ := S.at_ n p _ hp q
        obtain ⟨z, hz, hr⟩ := atI_rp hl e
        exact ix_list value slice pins s σ H _ _ v u Q I rx ry ⟨p, vs, i, z, rfl, rfl, .inl (.inl hH), hz, k F H z Stp.refl S hr⟩ hs
      | dct ks =>
        obtain ⟨_, kvs, hH, hl⟩ := S.at_ n p _ hp q
        dsimp only at e
        cases q2 : dKy kk with
        | none => rw [q2] at e; cases e
        | some ky =>
          rw [q2] at e
          have ev : getK ks ky = some w := e
          have hv := hl.val ky
          rw [ev] at hv
          obtain ⟨z, hz, hr⟩ := hv
          have ey := dKy_rep hb q2
          subst ey
          cases rx
          have g : DGet H p (kV (keyOf ky)) (some z) := by rw [← hz]; exact DGet.k hH
          exact tail_dict (dict_typeIs I g) hs (d_getItem hu I g ry fun w' s' I' r' => ⟨z, H, I', r', k F H z Stp.refl S hr⟩)
      | ins _ _ => cases e
      | dead => cases e
  · cases e
theorem RepL.drop {F : Hp} : ∀ (n : Nat) {vs : List V} {ds : List D}, RepL F vs ds → RepL F (vs.drop n) (ds.drop n)
  | 0, _, _, h => h
  | n + 1, vs, [], h => by unfold RepL at h; subst h; exact RepL.nil
  | n + 1, vs, d :: ds, h => by
    unfold RepL at h
    obtain ⟨v, r, rfl, _, h2⟩ := h
    exact RepL.drop n h2
theorem RepL.take {F : Hp} : ∀ (n : Nat) {vs : List V} {ds : List D}, RepL F vs ds → RepL F (vs.take n) (ds.take n)
  | 0, _, _, h => RepL.nil
  | n + 1, vs, [], h => by unfold RepL at h; subst h; exact RepL.nil
  | n + 1, vs, d :: ds, h => by
    unfold RepL at h
    obtain ⟨v, r, rfl, h1, h2⟩ := h
    exact RepL.cons h1 (RepL.take n h2)
theorem cutV_rep {F : Hp} {vs : List V} {ds : List D} (h : RepL F vs ds) (lo hi : Option Int) : RepL F (cutV vs lo hi) (cut ds lo hi) := by
  unfold cutV cut
  rw [h.len]
  exact (h.drop _).take _
/-- a slice by data -/
theorem sl_ok : SlR X (fun x lo hi H Q => ∃ (F : Hp) (ms : List Addr) (st : Loc) (a d : D), SRel F ms st H ∧ Pk F H x a ∧ slD a lo hi = some d ∧ Kd F ms st H Q d) := by
  intro pins s σ H x v vl vu lo hi sl Q I rx hs pl pu h
  obtain ⟨F, ms, st, a, d, S, P, e, k⟩ := h
  cases a <;> first | (simp [slD] at e; done) | skip
  · rename_i z
    have e2 : (if z.length ≤ 16777216 then some (D.str (cut z lo hi)) else none) = some d := e
    split at e2
    · rename_i hz
      cases e2
      cases (show x = V.str (sx z) from P)
      refine sl_str pins s σ H _ v vl vu lo hi sl Q I rx hs pl pu ⟨_, rfl, by rw [len_sx, line_eq]; exact hz, k.here S ?_⟩
      show V.str (cutS (sx z) lo hi) = V.str (sx (cut z lo hi))
      unfold cutS cut
      rw [len_sx]
    · cases e2
  · rename_i ds
    cases (show some (D.tup (cut ds lo hi)) = some d from e)
    obtain ⟨p, vs, rfl, hp, hl, hF⟩ := P
    refine sl_tupA pins s σ H _ v vl vu lo hi sl Q I rx hs pl pu ⟨p, vs, rfl, .inl hp, fun hw => ?_, fun _ r hr => k.tup S (cutV_rep hl lo hi) hr⟩
    have e3 : cut ds lo hi = ds := by
      unfold cut
      rw [← hl.len, hw.1, hw.2]
      rw [List.drop_zero, Nat.sub_zero, hl.len, List.take_length]
    rw [e3] at k
    exact k.here S (by unfold Rep; exact ⟨p, vs, rfl, hF, hl⟩)
  · rename_i ds
    cases (show some (D.lst (cut ds lo hi)) = some d from e)
    obtain ⟨p, vs, rfl, hp, hl⟩ := P
    exact sl_list pins s σ H _ v vl vu lo hi sl Q I rx hs pl pu ⟨p, vs, rfl, .inl hp, fun r hr => k.lst S (cutV_rep hl lo hi) hr⟩

/-! built-in functions -/
theorem kit_b (t : Ty) (h : ∀ c, t ≠ .cls c) : True := trivial
def tyName : Ty → String
  | .str => "str" | .bool => "bool" | .int => "int" | .lst => "list" | .tup => "tuple" | .cls _ => ""
/-- a value's type by data -/
theorem ty_pk {F H : Hp} {K : PySem.W.Frag} {x : V} {d : D} (P : Pk F H x d) (nd : ∀ c ds, d ≠ .ins c ds) : ∃ n, TyX K H x (.type n) ∧ match d with
    | .non => n = "NoneType" | .bl _ => n = "bool" | .int _ => n = "int" | .str _ => n = "str" | .tup _ => n = "tuple" | .lst _ => n = "list" | .dct _ => n = "dict" | .ins _ _ => n = "" := by
  cases d with
  | non => cases (show x = V.non from P); exact ⟨_, .base .non, rfl⟩
  | bl b => cases (show x = V.bl b from P); exact ⟨_, .base (.bl b), rfl⟩
  | int i => cases (show x = V.int i from P); exact ⟨_, .base (.int i), rfl⟩
  | str z => cases (show x = V.str (sx z) from P); exact ⟨_, .base (.str _), rfl⟩
  | tup ds =>
    obtain ⟨p, vs, rfl, hp, _⟩ := P
    rcases hp with hp | ⟨o, hp⟩
    · exact ⟨_, .base (.tup hp), rfl⟩
    · exact ⟨_, .fTuple hp, rfl⟩
  | lst ds =>
    obtain ⟨p, vs, rfl, hp, _⟩ := P
    rcases hp with hp | ⟨o, hp⟩
    · exact ⟨_, .base (.lst hp), rfl⟩
    · exact ⟨_, .base (.frz hp), rfl⟩
  | dct ds =>
    obtain ⟨_, p, rfl, hp⟩ := P
    rcases hp with hp | ⟨o, hp⟩
    · exact ⟨_, .base (.dK hp), rfl⟩
    · exact ⟨_, .fDict hp, rfl⟩
  | ins c ds => exact absurd rfl (nd c ds)
theorem kitB_all : ∀ a ∈ ["NoneType", "bool", "int", "str", "tuple", "list", "dict"], ∀ b ∈ ["str", "bool", "int", "list", "tuple"], kitB a b = some (a == b || (a == "bool" && b == "int")) := by decide +kernel
theorem isi_ok {t : Ty} {d : D} {b : Bool} (e : isTy t d = some b) : CallR X (.builtin "isinstance") (fun xs H Q => ∃ (x : V) (F : Hp), xs = [x, .ty (tyName t)] ∧ Pk F H x d ∧ Q (.bl b) H) := by
  intro pins s σ H xs us Q I r h
  obtain ⟨x, F, rfl, P, q⟩ := h
  obtain ⟨n, ty, hn⟩ := ty_pk (K := X.K) P fun c ds z => by subst z; cases t <;> simp [isTy] at e
  have key : kitB n (tyName t) = some b := by
    cases t <;> cases d <;> first | (simp [isTy] at e; done) | (cases e; subst hn; first | rfl | exact kitB_all _ (by simp) _ (by simp [tyName]))
  exact call_isi pins s σ H _ us Q I r ⟨x, _, _, _, b, rfl, .ty _, ty, kit_ty key, q⟩
/-- a function of one value, by data -/
def FnD (X : Cx) (f : Value) (g : D → Option D) : Prop :=
  CallR X f (fun xs H Q => ∃ (x : V) (F : Hp) (ms : List Addr) (st : Loc) (a d : D), xs = [x] ∧ SRel F ms st H ∧ Pk F H x a ∧ g a = some d ∧ Kd F ms st H Q d)
theorem fd_len : FnD X (.builtin "len") (biD .len) := by
  intro pins s σ H xs us Q I r h
  obtain ⟨x, F, ms, st, a, d, rfl, S, P, e, k⟩ := h
  cases a with
  | str z =>
    cases (show x = V.str (sx z) from P)
    have e2 : (if z.length ≤ 16777216 then some (D.int z.length) else none) = some d := e
    split at e2
    · rename_i hz
      cases e2
      refine call_len pins s σ H _ us Q I r ⟨_, z.length, rfl, ⟨by rw [len_sx, line_eq]; exact hz, (len_sx z).symm⟩, k.here S rfl⟩
    · cases e2
  | lst ds =>
    cases (show some (D.int ds.length) = some d from e)
    obtain ⟨p, vs, rfl, hp, hl⟩ := P
    refine call_len_seq pins s σ H _ us Q I r ⟨p, vs, rfl, .inl (.inl hp), ?_⟩
    rw [hl.len]
    exact k.here S rfl
  | tup ds =>
    cases (show some (D.int ds.length) = some d from e)
    obtain ⟨p, vs, rfl, hp, hl, _⟩ := P
    refine call_len_seq pins s σ H _ us Q I r ⟨p, vs, rfl, .inr (.inl hp), ?_⟩
    rw [hl.len]
    exact k.here S rfl
  | non => simp [biD] at e
  | bl _ => simp [biD] at e
  | int _ => simp [biD] at e
  | dct _ => simp [biD] at e
  | ins _ _ => simp [biD] at e
theorem fd_abs : FnD X (.builtin "abs") (biD .abs) := by
  intro pins s σ H xs us Q I r h
  obtain ⟨x, F, ms, st, a, d, rfl, S, P, e, k⟩ := h
  cases a <;> first | (simp [biD] at e; done) | skip
  rename_i i
  cases (show x = V.int i from P)
  cases (show some (D.int (if i < 0 then -i else i)) = some d from e)
  exact call_abs pins s σ H _ us Q I r ⟨i, rfl, k.here S rfl⟩
theorem fd_int : FnD X (.type "int") (biD .int) := by
  intro pins s σ H xs us Q I r h
  obtain ⟨x, F, ms, st, a, d, rfl, S, P, e, k⟩ := h
  cases a <;> first | (simp [biD] at e; done) | skip
  · rename_i b
    cases (show x = V.bl b from P)
    cases (show some (D.int (if b then 1 else 0)) = some d from e)
    exact call_int1 pins s σ H _ us Q I r (.inr ⟨b, rfl, k.here S rfl⟩)
  · rename_i i
    cases (show x = V.int i from P)
    cases (show some (D.int i) = some d from e)
    exact call_int1 pins s σ H _ us Q I r (.inl ⟨i, rfl, k.here S rfl⟩)

/-! methods of texts -/
/-- a method by data: the receiver, the arguments -/
def MtD (X : Cx) (id : String) (g : D → List D → Option D) : Prop :=
  MtR X id (fun x xs H Q => ∃ (F : Hp) (ms : List Addr) (st : Loc) (a : D) (bs : List D) (d : D), SRel F ms st H ∧ Pk F H x a ∧ Paired (Pk F H) xs bs ∧ g a bs = some d ∧ Kd F ms st H Q d)
theorem unStr_rep {F : Hp} : ∀ {ds : List D} {vs : List V} {xs : List Tx}, RepL F vs ds → unStr ds = some xs → vs = (xs.map sx).map V.str
  | [], _, xs, h, e => by
    unfold RepL at h; subst h
    cases (show some [] = some xs from e)
    rfl
  | d :: ds, _, xs, h, e => by
    unfold RepL at h
    obtain ⟨v, r, rfl, h1, h2⟩ := h
    cases d <;> first | (simp [unStr] at e; done) | skip
    rename_i z
    cases q : unStr ds with
    | none => simp [unStr, q] at e
    | some ys =>
      have e2 : xs = z :: ys := by simpa [unStr, q] using e.symm
      subst e2
      cases (show v = V.str (sx z) from h1)
      rw [unStr_rep h2 q]
      rfl
theorem map_tl_sx (xs : List Tx) : (xs.map sx).map TL.tl = xs := by
  rw [List.map_map]
  have : (TL.tl ∘ sx) = id := by funext z; rfl
  rw [this, List.map_id]
theorem strs_rep {F : Hp} : ∀ (xs : List Tx), RepL F ((xs.map sx).map V.str) (xs.map .str)
  | [] => RepL.nil
  | x :: xs => RepL.cons rfl (strs_rep xs)
theorem strs_of_tl {ys : List Str} {xs : List Tx} (h : ys.map TL.tl = xs) : ys = xs.map sx := by
  subst h
  rw [List.map_map]
  have : (sx ∘ TL.tl) = id := by funext z; exact TL.mk_tl z
  rw [this, List.map_id]
theorem spl_le (p : Tx) : ∀ (k : Nat) (acc s : Tx), (TL.spl p k acc s).length ≤ s.length + 1 := by
  intro k acc s
  induction s generalizing k acc with
  | nil => rw [TL.spl_nil]; simp
  | cons c r ih =>
    cases k with
    | zero =>
      cases h : TL.pre p (c :: r) with
      | true => rw [TL.spl_hit h]; have := ih (p.length - 1) []; simp; omega
      | false => rw [TL.spl_miss h]; have := ih 0 (acc ++ [c]); simp; omega
    | succ k =>
      rw [TL.spl_pass]
      have e : (c :: r).drop (k + 1) = r.drop k := rfl
      rw [e, ← TL.spl_pass]
      have := ih k acc; simp; omega
theorem md_split : MtD X "str.split" (smD .split) := by
  intro pins s σ H x xs v us Q I rx rs h
  obtain ⟨F, ms, st, a, bs, d, S, P, ps, e, k⟩ := h
  unfold smD at e
  split at e <;> first | (rename_i hh; cases hh; done) | skip
  · rename_i z p _
    split at e
    · rename_i hc
      obtain ⟨h1, h2, h3⟩ := hc
      cases e
      cases (show x = V.str (sx z) from P)
      cases ps with
      | cons p1 p2 =>
        cases p2
        rename_i y
        cases (show y = V.str (sx p) from p1)
        refine mt_split pins s σ H _ _ v us Q I rx rs ⟨sx z, sx p, rfl, rfl, ?_, ?_, fun r hr => ?_⟩
        · rw [len_sx]; cases p with
          | nil => exact absurd rfl h1
          | cons c t => rfl
        · rw [len_sx, line_eq]; exact h2
        · have e1 := TL.split_spl (sx z) (sx p) h1 (TL.kind_ok (by simpa [sx] using h3))
          have e2 := strs_of_tl e1
          rw [e2]
          exact k.lst S (strs_rep _) hr
    · cases e
  all_goals cases e
theorem lens_sx (n : Nat) (xs : List Tx) : ((xs.map sx).map (·.length)).sum + (xs.map sx).length * n = (xs.map List.length).sum + xs.length * n := by
  rw [List.map_map, List.length_map]
  have : ((fun (z : Str) => z.length) ∘ sx) = List.length := by funext z; exact len_sx z
  rw [this]
theorem md_join : MtD X "str.join" (smD .join) := by
  intro pins s σ H x xs v us Q I rx rs h
  obtain ⟨F, ms, st, a, bs, d, S, P, ps, e, k⟩ := h
  unfold smD at e
  split at e <;> first | (rename_i hh; cases hh; done) | skip
  · rename_i z ds _
    cases q : unStr ds with
    | none => rw [q] at e; cases e
    | some ys =>
      rw [q] at e
      have e2 : (if (ys.map List.length).sum + ys.length * z.length ≤ 16777216 then some (D.str (TL.joinL z ys)) else none) = some d := e
      split at e2
      · rename_i hc
        cases e2
        cases (show x = V.str (sx z) from P)
        cases ps with
        | cons p1 p2 =>
          cases p2
          obtain ⟨b, vs, rfl, hb, hl⟩ := p1
          have ev := unStr_rep hl q
          subst ev
          refine mt_join pins s σ H _ _ v us Q I rx rs ⟨sx z, b, ys.map sx, rfl, rfl, .inl (.inl hb), ?_, k.here S ?_⟩
          · rw [lens_sx, len_sx]; exact hc
          · show V.str _ = V.str _
            congr 1
            apply TL.ext_tl
            rw [TL.join_eq, TL.tl_join, map_tl_sx]
      · cases e2
  all_goals cases e
theorem case_sx {z : Tx} (h : z.all (· < 128) = true) : ∀ c ∈ (sx z).cps.toList, c < 128 := fun c hc => by
  have := List.all_eq_true.mp h c hc
  simpa using this
theorem md_lower : MtD X "str.lower" (smD .lower) := by
  intro pins s σ H x xs v us Q I rx rs h
  obtain ⟨F, ms, st, a, bs, d, S, P, ps, e, k⟩ := h
  unfold smD at e
  split at e <;> first | (rename_i hh; cases hh; done) | skip
  · rename_i z _
    split at e
    · rename_i hc
      cases e
      cases (show x = V.str (sx z) from P)
      cases ps
      refine mt_lower pins s σ H _ _ v us Q I rx rs ⟨sx z, rfl, rfl, by rw [len_sx]; exact hc.1, k.here S ?_⟩
      show V.str _ = V.str _
      rw [PyProof.Rows.lower_ascii (case_sx hc.2)]
      congr 1
      apply TL.ext_tl
      show ((sx z).cps.map PyProof.Rows.lo1).toList = z.map lowC
      rw [Array.toList_map]
      rfl
    · cases e
  all_goals cases e
theorem md_upper : MtD X "str.upper" (smD .upper) := by
  intro pins s σ H x xs v us Q I rx rs h
  obtain ⟨F, ms, st, a, bs, d, S, P, ps, e, k⟩ := h
  unfold smD at e
  split at e <;> first | (rename_i hh; cases hh; done) | skip
  · rename_i z _
    split at e
    · rename_i hc
      cases e
      cases (show x = V.str (sx z) from P)
      cases ps
      refine mt_upper pins s σ H _ _ v us Q I rx rs ⟨sx z, rfl, rfl, by rw [len_sx]; exact hc.1, k.here S ?_⟩
      show V.str _ = V.str _
      rw [PyProof.Rows.upper_ascii (case_sx hc.2)]
      congr 1
      apply TL.ext_tl
      show ((sx z).cps.map PyProof.Rows.up1).toList = z.map uppC
      rw [Array.toList_map]
      rfl
    · cases e
  all_goals cases e
theorem first_some (p : Tx) : ∀ (l : Tx) (k j : Nat), p ≠ [] → (∀ i, i < j → TL.pre p (l.drop i) = false) → TL.pre p (l.drop j) = true → firstAt p k l = some (k + j)
  | [], k, j, hp, _, h => by
    rw [List.drop_nil, TL.pre_nil hp] at h; cases h
  | c :: r, k, 0, hp, _, h => by
    unfold firstAt
    rw [if_pos (show TL.pre p (c :: r) = true from h)]; rfl
  | c :: r, k, j + 1, hp, hn, h => by
    unfold firstAt
    have h0 := hn 0 (Nat.succ_pos _)
    rw [if_neg (by rw [show (c :: r) = (c :: r).drop 0 from rfl, h0]; exact Bool.false_ne_true)]
    rw [first_some p r (k + 1) j hp (fun i hi => hn (i + 1) (Nat.succ_lt_succ hi)) h]
    congr 1; omega
theorem first_none (p : Tx) : ∀ (l : Tx) (k : Nat), p ≠ [] → (∀ i, TL.pre p (l.drop i) = false) → firstAt p k l = none
  | [], k, hp, _ => rfl
  | c :: r, k, hp, hn => by
    unfold firstAt
    have h0 := hn 0
    rw [if_neg (by rw [show (c :: r) = (c :: r).drop 0 from rfl, h0]; exact Bool.false_ne_true)]
    exact first_none p r (k + 1) hp fun i => hn (i + 1)
theorem occ_first0 (z p : Tx) (hp : p ≠ []) : (Builtin.Str.occurrences (sx z) (sx p) 0 (sx z).length 1).head? = firstAt p 0 z := by
  rcases StrLaws.occ_head (sx z) (sx p) 1 (Nat.le_refl _) with ⟨e, h⟩ | ⟨i, r, e, h, hn⟩
  · rw [e, first_none p z 0 hp fun i => TL.no_at (x := sx z) (y := sx p) hp (h i)]
    rfl
  · rw [e, first_some p z 0 i hp (fun k hk => TL.no_at (x := sx z) (y := sx p) hp (hn k hk)) ((TL.at_iff (x := sx z) (y := sx p) hp i).mp h)]
    simp
theorem md_index : MtD X "str.index" (smD .index) := by
  intro pins s σ H x xs v us Q I rx rs h
  obtain ⟨F, ms, st, a, bs, d, S, P, ps, e, k⟩ := h
  unfold smD at e
  split at e <;> first | (rename_i hh; cases hh; done) | skip
  · rename_i z p _
    split at e
    · rename_i hp
      cases q : firstAt p 0 z with
      | none => rw [q] at e; cases e
      | some j =>
        rw [q] at e; cases e
        cases (show x = V.str (sx z) from P)
        cases ps with
        | cons p1 p2 =>
          cases p2
          rename_i y
          cases (show y = V.str (sx p) from p1)
          obtain ⟨t, rfl⟩ := rx
          cases rs with
          | cons r1 rs =>
            cases rs
            obtain ⟨u, rfl⟩ := r1
            have o := occ_first0 z p hp
            rw [q] at o
            cases q2 : Builtin.Str.occurrences (sx z) (sx p) 0 (sx z).length 1 with
            | nil => rw [q2] at o; cases o
            | cons i r =>
              rw [q2] at o
              cases o
              exact PySem.SC.index q2 ⟨.int (j : Nat), H, I.tok _, ⟨_, rfl⟩, k.here S rfl⟩
    · cases e
  all_goals cases e
theorem occ_from (z p : Tx) (i : Nat) (hp : p ≠ []) : (Builtin.Str.occurrences (sx z) (sx p) i (sx z).length 1).head? = firstAt p i (z.drop i) := by
  rcases StrLaws.occ_head_from (sx z) (sx p) i 1 (Nat.le_refl _) with ⟨e, h⟩ | ⟨j, r, e, hij, h, hn⟩
  · rw [e, first_none p (z.drop i) i hp fun k => by
      rw [List.drop_drop]
      exact TL.no_at (x := sx z) (y := sx p) hp (h _ (by omega))]
    rfl
  · rw [e, first_some p (z.drop i) i (j - i) hp (fun k hk => by
      rw [List.drop_drop]
      exact TL.no_at (x := sx z) (y := sx p) hp (hn _ (by omega) (by omega))) (by
      rw [List.drop_drop]
      have : i + (j - i) = j := by omega
      rw [this]
      exact (TL.at_iff (x := sx z) (y := sx p) hp j).mp h)]
    simp; omega
theorem md_find : MtD X "str.find" (smD .find) := by
  intro pins s σ H x xs v us Q I rx rs h
  obtain ⟨F, ms, st, a, bs, d, S, P, ps, e, k⟩ := h
  unfold smD at e
  split at e <;> first | (rename_i hh; cases hh; done) | skip
  · rename_i z p _
    split at e
    · rename_i hp
      cases e
      cases (show x = V.str (sx z) from P)
      cases ps with
      | cons p1 p2 =>
        cases p2
        rename_i y
        cases (show y = V.str (sx p) from p1)
        refine mt_find pins s σ H _ _ v us Q I rx rs ⟨sx z, sx p, rfl, rfl, ?_⟩
        have o := occ_first0 z p hp
        have ef : Txt.find (sx z) (sx p) = match firstAt p 0 z with
          | some k => (k : Int)
          | none => -1 := by
          unfold Txt.find
          rw [← o]
          cases Builtin.Str.occurrences (sx z) (sx p) 0 (sx z).length 1 <;> rfl
        rw [ef]
        exact k.here S rfl
    · cases e
  · rename_i z p i _
    split at e
    · rename_i hp
      cases e
      cases (show x = V.str (sx z) from P)
      cases ps with
      | cons p1 p2 =>
        rename_i y ys
        cases (show y = V.str (sx p) from p1)
        cases p2 with
        | cons q1 q2 =>
          cases q2
          rename_i y2
          cases (show y2 = V.int i from q1)
          refine mt_find3 pins s σ H _ _ v us Q I rx rs ⟨sx z, sx p, i, rfl, rfl, ?_⟩
          have hi : PySem.fromIndex (sx z).length i = i.toNat := by
            unfold PySem.fromIndex
            rw [if_neg (by omega)]
            omega
          have o := occ_from z p i.toNat hp.1
          have ef : Txt.find3 (sx z) (sx p) i = match firstAt p i.toNat (z.drop i.toNat) with
            | some k => (k : Int)
            | none => -1 := by
            unfold Txt.find3
            rw [hi, ← o]
            cases Builtin.Str.occurrences (sx z) (sx p) i.toNat (sx z).length 1 <;> rfl
          rw [ef]
          exact k.here S rfl
    · cases e
  all_goals cases e
theorem md_partition : MtD X "str.partition" (smD .partition) := by
  intro pins s σ H x xs v us Q I rx rs h
  obtain ⟨F, ms, st, a, bs, d, S, P, ps, e, k⟩ := h
  unfold smD at e
  split at e <;> first | (rename_i hh; cases hh; done) | skip
  · rename_i z p _
    split at e
    · rename_i hp
      cases e
      cases (show x = V.str (sx z) from P)
      cases ps with
      | cons p1 p2 =>
        cases p2
        rename_i y
        cases (show y = V.str (sx p) from p1)
        refine mt_partition pins s σ H _ _ v us Q I rx rs ⟨sx z, sx p, rfl, rfl, ?_, ?_, fun q hq => ?_⟩
        · rw [len_sx]; cases p with
          | nil => exact absurd rfl hp.1
          | cons c t => rfl
        · rw [len_sx, line_eq]; exact hp.2
        · have e0 := TL.partition_par (sx z) (sx p) hp.1
          refine k.tup S ?_ hq
          cases hpar : TL.par p [] z with
          | none =>
            have e2 : TL.par (TL.tl (sx p)) [] (TL.tl (sx z)) = none := hpar
            rw [e2] at e0
            rw [e0]
            exact RepL.cons rfl (RepL.cons rfl (RepL.cons rfl RepL.nil))
          | some r =>
            obtain ⟨a, b⟩ := r
            have e2 : TL.par (TL.tl (sx p)) [] (TL.tl (sx z)) = some (a, b) := hpar
            rw [e2] at e0
            rw [e0]
            exact RepL.cons rfl (RepL.cons rfl (RepL.cons rfl RepL.nil))
    · cases e
  all_goals cases e
theorem md_starts : MtD X "str.startswith" (smD .starts) := by
  intro pins s σ H x xs v us Q I rx rs h
  obtain ⟨F, ms, st, a, bs, d, S, P, ps, e, k⟩ := h
  unfold smD at e
  split at e <;> first | (rename_i hh; cases hh; done) | skip
  · rename_i z p _
    split at e
    · rename_i hp
      cases e
      cases (show x = V.str (sx z) from P)
      cases ps with
      | cons p1 p2 =>
        cases p2
        rename_i y
        cases (show y = V.str (sx p) from p1)
        refine mt_startswith pins s σ H _ _ v us Q I rx rs ⟨sx z, sx p, rfl, rfl, ?_⟩
        have ef : Txt.startswith (sx z) (sx p) = TL.pre p z := by
          have h1 := TL.at_iff (x := sx z) (y := sx p) hp 0
          unfold Txt.startswith
          rw [Bool.eq_iff_iff, Bool.and_eq_true, decide_eq_true_iff]
          exact h1
        rw [ef]
        exact k.here S rfl
    · cases e
  all_goals cases e
theorem md_ends : MtD X "str.endswith" (smD .ends) := by
  intro pins s σ H x xs v us Q I rx rs h
  obtain ⟨F, ms, st, a, bs, d, S, P, ps, e, k⟩ := h
  unfold smD at e
  split at e <;> first | (rename_i hh; cases hh; done) | skip
  · rename_i z p _
    split at e
    · rename_i hp
      cases e
      cases (show x = V.str (sx z) from P)
      cases ps with
      | cons p1 p2 =>
        cases p2
        rename_i y
        cases (show y = V.str (sx p) from p1)
        refine mt_endswith pins s σ H _ _ v us Q I rx rs ⟨sx z, sx p, rfl, rfl, ?_⟩
        have ef : Txt.endswith (sx z) (sx p) = (decide (p.length ≤ z.length) && TL.pre p (z.drop (z.length - p.length))) := by
          have h1 := TL.at_iff (x := sx z) (y := sx p) hp (z.length - p.length)
          unfold Txt.endswith
          have e1 := len_sx z
          have e2 := len_sx p
          rw [e1, e2, Bool.eq_iff_iff, Bool.and_eq_true, Bool.and_eq_true, decide_eq_true_iff, decide_eq_true_iff]
          constructor
          · intro ⟨a1, a2⟩
            exact ⟨by omega, h1.mp ⟨by rw [e1, e2]; omega, a2⟩⟩
          · intro ⟨a1, a2⟩
            exact ⟨by omega, (h1.mpr a2).2⟩
        rw [ef]
        exact k.here S rfl
    · cases e
  all_goals cases e
theorem cnt_count (c : Nat) : ∀ z : Tx, PyProof.Rows.cnt c z = ((z.count c : Nat) : Int)
  | [] => rfl
  | x :: r => by
    rw [PyProof.Rows.cnt_cons, cnt_count c r, List.count_cons]
    by_cases h : x = c <;> simp [h]
    omega
theorem md_count : MtD X "str.count" (smD .count) := by
  intro pins s σ H x xs v us Q I rx rs h
  obtain ⟨F, ms, st, a, bs, d, S, P, ps, e, k⟩ := h
  unfold smD at e
  split at e <;> first | (rename_i hh; cases hh; done) | skip
  · rename_i z c _
    cases e
    cases (show x = V.str (sx z) from P)
    cases ps with
    | cons p1 p2 =>
      cases p2
      rename_i y
      cases (show y = V.str (sx [c]) from p1)
      refine mt_count pins s σ H _ _ v us Q I rx rs ⟨sx z, sx [c], rfl, rfl, ?_⟩
      have e1 : Txt.count (sx z) (sx [c]) = z.count c := by
        rw [show sx [c] = (⟨#[c]⟩ : Str) from rfl, PyProof.Rows.count_cnt]
        exact cnt_count c z
      rw [e1]
      exact k.here S rfl
  all_goals cases e
theorem md_rstrip : MtD X "str.rstrip" (smD .rstrip) := by
  intro pins s σ H x xs v us Q I rx rs h
  obtain ⟨F, ms, st, a, bs, d, S, P, ps, e, k⟩ := h
  unfold smD at e
  split at e <;> first | (rename_i hh; cases hh; done) | skip
  · rename_i z p _
    split at e
    · rename_i hz
      cases e
      cases (show x = V.str (sx z) from P)
      cases ps with
      | cons p1 p2 =>
        cases p2
        rename_i y
        cases (show y = V.str (sx p) from p1)
        refine mt_rstripChars pins s σ H _ _ v us Q I rx rs ⟨sx z, sx p, rfl, rfl, by rw [len_sx]; exact hz, ?_⟩
        exact k.here S (by show V.str _ = V.str _; congr 1)
    · cases e
  all_goals cases e
theorem md_rpart : MtD X "str.rpartition" (smD .rpart) := by
  intro pins s σ H x xs v us Q I rx rs h
  obtain ⟨F, ms, st, a, bs, d, S, P, ps, e, k⟩ := h
  unfold smD at e
  split at e <;> first | (rename_i hh; cases hh; done) | skip
  · rename_i z p _
    split at e
    · rename_i hp
      cases e
      cases (show x = V.str (sx z) from P)
      cases ps with
      | cons p1 p2 =>
        cases p2
        rename_i y
        cases (show y = V.str (sx p) from p1)
        obtain ⟨t, rfl⟩ := rx
        cases rs with
        | cons r1 rs =>
          cases rs
          obtain ⟨u, rfl⟩ := r1
          have hb : ((sx p).length == 0) = false := by
            rw [len_sx]; cases p with
            | nil => exact absurd rfl hp.1
            | cons c t => rfl
          refine call_meets PySem.F.slot_str_rpartition (typeIs_str _ _ _) PySem.F.entry_str_rpartition (PySem.F.args_str_rpartition_2 _ _) (meets_str_rpartition (sx z) (sx p) t u hb (by rw [len_sx]; exact hp.2)) ?_
          have fin : ∀ q, H q = none → Q (.ref q) (upd H q (.tup [.str (Txt.rpartition (sx z) (sx p)).1, .str (Txt.rpartition (sx z) (sx p)).2.1, .str (Txt.rpartition (sx z) (sx p)).2.2])) := fun q hq =>
            k.tup S (RepL.cons (by show V.str _ = V.str _; congr 1) (RepL.cons (by show V.str _ = V.str _; congr 1) (RepL.cons (by show V.str _ = V.str _; congr 1) RepL.nil))) hq
          unfold Txt.rpartition at fin
          revert fin
          cases Builtin.Str.lastOccurrence (sx z) (sx p) 0 (sx z).length with
          | none => intro fin; exact laid_parts I fin
          | some i => intro fin; exact laid_parts I fin
    · cases e
  all_goals cases e
/-- a list of data and an item, read -/
theorem lst_reads {pins : List (Addr × PySem.Obj)} {s : Shared} {σ : L2.St} {H F : Hp} {ms : List Addr} {st : Loc} {x y : V} {u : Value} {ds : List D} {d : D} (hu : X.A.units + 64 < cLine) (I : Inv X pins σ H s) (S : SRel F ms st H) (P : Pk F H x (.lst ds)) (Py : Pk F H y d) (ry : RelV y u) (h1 : okL 12 ds = true) (h2 : okD 12 d = true) :
    ∃ (a : Addr) (its : List Value) (n : Nat) (dd : Option Addr) (sl : Array (Option Value)), x = .ref a ∧ s.heap.get? a = some { cls := .type "list", dict := dd, data := .seq its.toArray n, slots := sl } ∧ its.map (SeqAt.readOf s.heap) = toPyL ds ∧ its.length = ds.length ∧
      ∀ z, z ∈ its.toArray → SeqAt.EqAt X.A.in1 s z u (PyData.eqv (SeqAt.readOf s.heap z) (toPy d)) := by
  obtain ⟨a, vs, rfl, hp, hl⟩ := P
  obtain ⟨bs, r1⟩ := Dp.reads I (toPy d) y u (dp_pk S.le h2 Py) ry
  obtain ⟨its, rv, ⟨⟨cls, dd, data, sl⟩, n, ho, hc, hdn, hdt⟩, hlen⟩ := I.list (.inl hp)
  simp only at hc hdt
  subst hc hdt
  obtain ⟨as, h4⟩ := Dp.readsAll I (toPyL ds) _ its (dp_repL S.le 12 ds vs h1 hl) rv
  refine ⟨a, its, n, dd, sl, rfl, ho, SeqAt.readsAll_map_plain _ _ _ (py_plainL ds) h4, ?_, SeqAt.items_plain (vs := its.toArray) (show ReadsAll s.heap its.toArray.toList (toPyL ds) as from h4) r1 (py_plainL ds) (py_plain d) (depthL_le (py_depthL 12 ds h1) hu)⟩
  have e1 := rv.length
  have e2 := hl.len
  omega
theorem toPyL_map : ∀ ds : List D, toPyL ds = ds.map toPy
  | [] => rfl
  | d :: ds => by rw [toPyL, List.map_cons, toPyL_map ds]
theorem cnt_py {d : D} (h' : okD 12 d = true) : ∀ (ds : List D) (k : Nat), okL 12 ds = true → ((ds.map toPy).countP fun y => y.eqv (toPy d)) = cntD d ds
  | [], _, _ => rfl
  | x :: ds, k, h => by
    have h1 : okD 12 x = true ∧ okL 12 ds = true := by simpa [okL] using h
    rw [List.map_cons, List.countP_cons, cnt_py h' ds k h1.2, py_eqv 12 12 x d h1.1 h']
    conv => rhs; unfold cntD
    split <;> omega
theorem md_lcount (hu : X.A.units + 64 < cLine) : MtD X "list.count" (smD .lcount) := by
  intro pins s σ H x xs v us Q I rx rs h
  obtain ⟨F, ms, st, a, bs, d, S, P, ps, e, k⟩ := h
  unfold smD at e
  split at e <;> first | (rename_i hh; cases hh; done) | skip
  · rename_i ds y _
    split at e
    · rename_i hc
      cases e
      obtain ⟨h1, h2⟩ := Bool.and_eq_true_iff.mp hc
      cases ps with
      | cons p1 p2 =>
        cases p2
        cases rs with
        | cons r1 rs =>
          cases rs
          obtain ⟨a, its, n, dd, sl, rfl, ho, hm, hl, hi⟩ := lst_reads hu I S P p1 r1 h1 h2
          cases rx
          refine call_meets PySem.F.slot_list_count ⟨_, ho, rfl⟩ PySem.F.entry_list_count (PySem.F.args_list_count_2 _ _) (SeqAt.list_countAt a its.toArray n dd sl _ _) ⟨ho, hi, ?_⟩
          have ec : its.toArray.toList.countP (fun z => PyData.eqv (SeqAt.readOf s.heap z) (toPy y)) = cntD y ds := by
            have e1 : its.toArray.toList.countP (fun z => PyData.eqv (SeqAt.readOf s.heap z) (toPy y)) = (its.map (SeqAt.readOf s.heap)).countP fun w => w.eqv (toPy y) := by
              rw [List.countP_map]; rfl
            rw [e1, hm, toPyL_map]
            exact cnt_py h2 ds 0 h1
          rw [ec]
          exact ⟨.int (cntD y ds : Nat), H, I.tok _, ⟨_, rfl⟩, k.here S rfl⟩
    · cases e
  all_goals cases e
theorem ix_py {d : D} (h' : okD 12 d = true) : ∀ (ds : List D) (k j : Nat), okL 12 ds = true → ixD d k ds = some j → ∃ i, j = k + i ∧ (∃ x, ds[i]? = some x ∧ (toPy x).eqv (toPy d) = true) ∧ ∀ m, m < i → ∀ x, ds[m]? = some x → (toPy x).eqv (toPy d) = false
  | [], _, _, _, h => by cases h
  | x :: ds, k, j, h, e => by
    have h1 : okD 12 x = true ∧ okL 12 ds = true := by simpa [okL] using h
    have q := py_eqv 12 12 x d h1.1 h'
    unfold ixD at e
    split at e
    · rename_i z
      cases e
      exact ⟨0, rfl, ⟨x, rfl, by rw [q]; exact z⟩, fun m hm => absurd hm (by omega)⟩
    · rename_i z
      obtain ⟨i, e1, ⟨y, e2, e3⟩, e4⟩ := ix_py h' ds (k + 1) j h1.2 e
      refine ⟨i + 1, by omega, ⟨y, by simpa using e2, e3⟩, fun m hm y hy => ?_⟩
      cases m with
      | zero =>
        cases (show some x = some y from hy)
        rw [q]
        simpa using z
      | succ m => exact e4 m (by omega) y (by simpa using hy)
theorem md_lindex (hu : X.A.units + 64 < cLine) : MtD X "list.index" (smD .lindex) := by
  intro pins s σ H x xs v us Q I rx rs h
  obtain ⟨F, ms, st, a, bs, d, S, P, ps, e, k⟩ := h
  unfold smD at e
  split at e <;> first | (rename_i hh; cases hh; done) | skip
  · rename_i ds y _
    split at e
    · rename_i hc
      obtain ⟨h12, h3⟩ := Bool.and_eq_true_iff.mp hc
      obtain ⟨h1, h2⟩ := Bool.and_eq_true_iff.mp h12
      cases q : ixD y 0 ds with
      | none => rw [q] at e; cases e
      | some j =>
        rw [q] at e
        cases e
        obtain ⟨i, e1, ⟨z, e2, e3⟩, e4⟩ := ix_py h2 ds 0 j h1 q
        rw [Nat.zero_add] at e1
        subst e1
        cases ps with
        | cons p1 p2 =>
          cases p2
          cases rs with
          | cons r1 rs =>
            cases rs
            obtain ⟨a, its, n, dd, sl, rfl, ho, hm, hl, hi⟩ := lst_reads hu I S P p1 r1 h1 h2
            cases rx
            have hj : j < its.length := by rw [hl]; exact (List.getElem?_eq_some_iff.mp e2).1
            have hlen : ds.length ≤ 16777216 := Nat.le_of_ble_eq_true h3
            have at_ : ∀ (m : Nat) (hm' : m < its.length), ∃ x, ds[m]? = some x ∧ SeqAt.readOf s.heap its[m] = toPy x := by
              intro m hm'
              have hd : m < ds.length := by omega
              refine ⟨ds[m], List.getElem?_eq_getElem hd, ?_⟩
              have e5 : (its.map (SeqAt.readOf s.heap))[m]? = (toPyL ds)[m]? := by rw [hm]
              rw [toPyL_map, List.getElem?_map, List.getElem?_map, List.getElem?_eq_getElem hm', List.getElem?_eq_getElem hd] at e5
              simpa using e5
            refine call_meets PySem.F.slot_list_index ⟨_, ho, rfl⟩ PySem.F.entry_list_index (PySem.F.args_list_index_2 _ _)
              (SeqAt.list_indexAt a its.toArray n dd sl _ (fun z => PyData.eqv (SeqAt.readOf s.heap z) (toPy y)) j (by simpa using hj) (by omega) ?_ ?_) ⟨ho, hi, ?_⟩
            · obtain ⟨x, ex, er⟩ := at_ j hj
              rw [e2] at ex
              cases ex
              show PyData.eqv (SeqAt.readOf s.heap its.toArray[j]) (toPy y) = true
              have e6 : SeqAt.readOf s.heap its.toArray[j] = toPy z := by simpa using er
              rw [e6]
              exact e3
            · intro m hm' hmj
              have hm2 : m < its.length := by simpa using hm'
              obtain ⟨x, ex, er⟩ := at_ m hm2
              show PyData.eqv (SeqAt.readOf s.heap its.toArray[m]) (toPy y) = false
              have e6 : SeqAt.readOf s.heap its.toArray[m] = toPy x := by simpa using er
              rw [e6]
              exact e4 m hmj x ex
            · exact ⟨.int (j : Nat), H, I.tok _, ⟨_, rfl⟩, k.here S rfl⟩
    · cases e
  all_goals cases e
end
end Vx

set_option maxHeartbeats 4000000
/-! ### soundness: expressions -/
namespace Vx
open PySem PySem.Spec PyProof.Rows L2
variable [tb : Tbs]

/-- the program's tables: printed defs, names, where they stand -/
structure Tab where
  dfs : List Def
  sub : Nat → Nat → Option Bool
  nm : List Str
  ps : Nat → List Str
  con : Str → Option D
  cn : List Str
  fa : Nat → Addr
  fd : Nat → FuncData
  ca : Nat → Addr
  /-- within an except suite -/
  hot : Bool := false
  /-- lambdas may be handed -/
  ask : Bool := false
abbrev Tab.toHot (T : Tab) : Tab := { T with hot := true, ask := false }
abbrev Tab.plain (T : Tab) : Tab := { T with hot := false, ask := false }
section
variable [sp : Spv]

/-- what follows a run of the evaluator, from F, ms, H -/
def Fin {α : Type} (T : Tab) (E : XK) (fx : Loc) (F : Hp) (ms : List Addr) (H : Hp) (r : Res α) (K : α → Loc → Hp → List Addr → Hp → Prop) : Prop :=
  match r with
  | .ok a l => ∀ (F' : Hp) (ms' : List Addr) (H' : Hp), Stp F ms H F' ms' H' → SRel F' ms' (fx ++ l) H' → K a l F' ms' H'
  | .exc c p l => p = .non → ∀ (F' : Hp) (ms' : List Addr) (H' : Hp), Stp F ms H F' ms' H' → SRel F' ms' (fx ++ l) H' → E (.ref (T.ca c)) none H'
  | .bad => False
section
variable {α β : Type} {T : Tab} {E : XK} {fx : Loc} {F F1 : Hp} {ms ms1 : List Addr} {H H1 : Hp}
theorem Fin.shift {r : Res α} {K : α → Loc → Hp → List Addr → Hp → Prop} (t : Stp F ms H F1 ms1 H1) (h : Fin T E fx F ms H r K) : Fin T E fx F1 ms1 H1 r K := by
  cases r with
  | ok a l => exact fun F' ms' H' t' S => h F' ms' H' (t.trans t') S
  | exc c p l => exact fun e F' ms' H' t' S => h e F' ms' H' (t.trans t') S
  | bad => exact h
theorem Fin.mono {r : Res α} {K K' : α → Loc → Hp → List Addr → Hp → Prop} (h : Fin T E fx F ms H r K) (k : ∀ a l F' ms' H', Stp F ms H F' ms' H' → SRel F' ms' (fx ++ l) H' → K a l F' ms' H' → K' a l F' ms' H') : Fin T E fx F ms H r K' := by
  cases r with
  | ok a l => exact fun F' ms' H' t' S => k a l F' ms' H' t' S (h F' ms' H' t' S)
  | exc c p l => exact h
  | bad => exact h
theorem Fin.bind {r : Res α} {f : α → Loc → Res β} {K : β → Loc → Hp → List Addr → Hp → Prop} (h : Fin T E fx F ms H (r.bind f) K) :
    Fin T E fx F ms H r (fun a l F' ms' H' => Fin T E fx F' ms' H' (f a l) K) := by
  cases r with
  | ok a l =>
    intro F' ms' H' t' S
    exact Fin.shift (r := f a l) t' h
  | exc c p l => exact h
  | bad => exact h
theorem Fin.here {a : α} {l : Loc} {K : α → Loc → Hp → List Addr → Hp → Prop} (h : Fin T E fx F ms H (.ok a l) K) (S : SRel F ms (fx ++ l) H) : K a l F ms H := h F ms H Stp.refl S
theorem Fin.ret {o : Option α} {l : Loc} {K : α → Loc → Hp → List Addr → Hp → Prop} (h : Fin T E fx F ms H (Vx.ret o l) K) : ∃ a, o = some a ∧ Fin T E fx F ms H (.ok a l) K := by
  cases o with
  | none => exact h.elim
  | some a => exact ⟨a, rfl, h⟩
end

/-! readings of the evaluator -/
def kE (Q : VK) : W → Loc → Hp → List Addr → Hp → Prop := fun w _ F' ms' H' => ∀ v, Rp F' ms' v w → Q v H'
def tE (T : Tab) (Wx : WX) (fx : Loc) (f : Env → Loc → Res W) : TE := fun σ H Q =>
  ∃ (F : Hp) (ms : List Addr) (ρ : Env) (l : Loc), SRel F ms (fx ++ l) H ∧ EnvR F ms ρ σ ∧ Fin T (fun c d H' => Wx c d σ H') fx F ms H (f ρ l) (kE Q)
def tT (T : Tab) (Wx : WX) (fx : Loc) (f : Env → Loc → Res Bool) : TT := fun σ H Q =>
  ∃ (F : Hp) (ms : List Addr) (ρ : Env) (l : Loc), SRel F ms (fx ++ l) H ∧ EnvR F ms ρ σ ∧ Fin T (fun c d H' => Wx c d σ H') fx F ms H (f ρ l) (fun b _ _ _ H' => Q b H')
def tA (T : Tab) (Wx : WX) (fx : Loc) (f : Env → Loc → Res (List W)) : TA := fun σ H Q =>
  ∃ (F : Hp) (ms : List Addr) (ρ : Env) (l : Loc), SRel F ms (fx ++ l) H ∧ EnvR F ms ρ σ ∧ Fin T (fun c d H' => Wx c d σ H') fx F ms H (f ρ l) (fun ws _ F' ms' H' => ∀ vs, RpL F' ms' vs ws → Q vs H')

end
/-! syntax that the checks look at -/
def nst : Expr → Bool
  | .Starred _ _ => false
  | _ => true
def nset : Expr → Bool
  | .Set _ _ _ => false
  | _ => true
def nsl : Expr → Bool
  | .Slice _ _ _ _ => false
  | _ => true
/-- no call of super() -/
def nsup : Expr → Bool
  | .Call (.Name _ _) [] [] _ => false
  | _ => true
/-- a test is its value's truth -/
def tplain : Expr → Bool
  | .UnaryOp .Not _ _ => false
  | .BoolOp _ _ _ => false
  | .IfExp _ _ _ _ => false
  | .Compare _ _ _ _ => false
  | _ => true
theorem star_cons {e : Expr} {es : List Expr} {env : PySem.Env} (h : nst e = true) : starEach (e :: es) env = (false, eval e env) :: starEach es env := by
  cases e <;> first | rfl | cases h
theorem star_any {pos : Pos} {env : PySem.Env} : ∀ {es : List Expr}, es.all nst = true → (backTo pos (starEach es env)).any (·.1) = false
  | [], _ => rfl
  | e :: es, h => by
    have h' : nst e = true ∧ es.all nst = true := by simpa using h
    rw [star_cons h'.1]
    have := star_any (pos := pos) (env := env) h'.2
    cases es with
    | nil => rfl
    | cons e2 es =>
      show (false || _) = false
      rw [Bool.false_or]
      exact this
theorem plain_ix {b : Expr} (h : nsl b = true) (o i : Value) : subscripted b false o i = operate [o, i] (getItem o i) := by
  cases b <;> first | rfl | cases h
theorem base_id {o : Expr} {f : Str} {env : PySem.Env} (h : nsup o = true) : attributeBase o f env (eval o env) = eval o env := by
  cases o <;> try rfl
  rename_i fn args kws pos
  cases fn <;> try rfl
  cases args <;> try rfl
  cases kws <;> first | rfl | cases h
theorem marks_id {e : Expr} (op : CmpOp) (h : nset e = true) : behindInMarks op e = false := by
  cases e <;> first | rfl | cases h
theorem fold_id {e : Expr} {env : PySem.Env} (h : nset e = true) (x : Value) : foldedSetIterable e env x = pure x := by
  cases e <;> first | rfl | cases h
theorem true_id {e : Expr} {env : PySem.Env} (h : tplain e = true) (whole : Sem Value) : isTrue e env whole = (do let v ← whole; standAt e.pos; holding [v] (truthy v)) := by
  cases e <;> first | rfl | (cases h; done) | skip
  rename_i op a pos
  cases op <;> first | rfl | cases h

/-! the checks: a printed form is the syntax's -/
def okC : D → Const → Bool
  | .non, .none => true
  | .bl a, .bool b => a == b
  | .int i, .int j => decide (i = j)
  | .str s, .str z => decide (z = sx s)
  | _, _ => false
/-- a name of the def -/
def okV (N : List Str) (sc : Scope) (i : Nat) (x : Str) : Bool :=
  decide (N[i]? = some x) && (decide (sc.names.lookup x = some .local) || decide (sc.names.lookup x = some .cell) || decide (sc.names.lookup x = some .free)) && !(x == ("__debug__" : Str)) && !(x == ("__classdict__" : Str))
def okG (sc : Scope) (x : Str) : Bool := decide (sc.names.lookup x = some .globalImplicit) && !(x == ("__debug__" : Str))
def okCon (o : Option D) (d : D) : Bool := match o, d with
  | some (.int i), .int j => decide (i = j)
  | some (.str s), .str t => decide (s = t)
  | _, _ => false
def biName : Bi → Str
  | .len => "len" | .abs => "abs" | .int => "int" | .isi _ => "isinstance"
def smName : Sm → Str
  | .split => "split" | .join => "join" | .lower => "lower" | .upper => "upper" | .index => "index" | .append => "append" | .find => "find" | .partition => "partition" | .starts => "startswith" | .ends => "endswith" | .get => "get" | .lindex => "index" | .lcount => "count" | .count => "count" | .rstrip => "rstrip" | .rpart => "rpartition"
/-- a target; sc: the scope that owns the names -/
def okN (N : List Str) (sc : Scope) (i : Nat) (x : Str) : Bool := decide (N[i]? = some x) && (decide (sc.names.lookup x = some .local) || decide (sc.names.lookup x = some .cell))
def okNs (N : List Str) (sc : Scope) : List Nat → List Expr → Bool
  | [], [] => true
  | i :: is, .Name x _ :: es => okN N sc i x && okNs N sc is es
  | _, _ => false
def okTg (N : List Str) (sc : Scope) : Tg → Expr → Bool
  | .n i, .Name x _ => okN N sc i x
  | .t is, .Tuple es _ _ => okNs N sc is es
  | _, _ => false
def tgIs : Tg → List Nat
  | .n i => [i]
  | .t is => is
def noPs : Arguments → Bool
  | ⟨[], [], none, [], [], none, []⟩ => true
  | _ => false
def okAr : Sm → Nat → Bool
  | .lindex, n => n == 1
  | .lcount, n => n == 1
  | .append, n => n == 1
  | .get, n => n == 1 || n == 2
  | _, n => Nat.blt n 29
def notCls : Ty → Bool
  | .cls _ => false
  | _ => true
def notIsi : Bi → Bool
  | .isi _ => false
  | _ => true
/-- one comparison -/
def isC : Ex → Expr → Bool
  | .op _ _ _, .Compare _ [_] [_] _ => true
  | .chain _ _ _ _ _, .Compare _ [_, _] [_, _] _ => true
  | _, _ => false
mutual
def okE (T : Tab) (N : List Str) : Scope → Ex → Expr → Bool
  | _, .c x, .Constant k _ _ => okC x k
  | sc, .v i, .Name x _ => okV N sc i x
  | sc, .g y d, .Name x _ => decide (y = x) && okG sc x && okCon (T.con x) d
  | sc, .op o a b, .BinOp l p r _ => okBin o p && okE T N sc a l && okE T N sc b r
  | sc, .op o a b, .Compare l [p] [r] _ => okCmp o p && okE T N sc a l && okE T N sc b r && nset r
  | sc, .chain o1 o2 a b c, .Compare l [p, q] [r, t] _ => okCmp o1 p && okCmp o2 q && nset t && okE T N sc a l && okE T N sc b r && okE T N sc c t
  | sc, .and a b, .BoolOp .And (x :: y :: r) pos => okE T N sc a x && (match r with
    | [] => okE T N sc b y
    | z :: t => okE T N sc b (.BoolOp .And (y :: z :: t) pos))
  | sc, .or a b, .BoolOp .Or (x :: y :: r) pos => okE T N sc a x && (match r with
    | [] => okE T N sc b y
    | z :: t => okE T N sc b (.BoolOp .Or (y :: z :: t) pos))
  | sc, .not a, .UnaryOp .Not x _ => okE T N sc a x
  | sc, .neg a, .UnaryOp .USub x _ => okE T N sc a x
  | sc, .ite c a b, .IfExp x y z _ => okT T N sc c x && okE T N sc a y && okE T N sc b z
  | sc, .tup es, .Tuple xs _ _ => xs.all nst && okEs T N sc es xs
  | sc, .lst _ es, .List xs _ => xs.all nst && okEs T N sc es xs
  | sc, .idx a i, .Subscript x y _ => nsl y && okE T N sc a x && okE T N sc i y
  | sc, .sl a lo hi, .Subscript x (.Slice p q none _) _ => okE T N sc a x && okO T N sc lo p && okO T N sc hi q
  | sc, .call _ f es, .Call (.Name x _) xs [] _ => !T.hot && okG sc x && decide (T.nm[f]? = some x) && xs.all nst && okEs T N sc es xs
  | sc, .bi (.isi t) a, .Call (.Name x _) [e, .Name y _] [] _ => okG sc x && decide (x = "isinstance") && okG sc y && decide (y = Str.ofString (tyName t)) && notCls t && nst e && okE T N sc a e
  | sc, .bi b a, .Call (.Name x _) [e] [] _ => okG sc x && decide (x = biName b) && notIsi b && nst e && okE T N sc a e
  | sc, .sm m o es, .Call (.Attribute x f p) xs [] q => decide (f = smName m) && nsup x && (p.endLine == q.line) && xs.all nst && okAr m xs.length && okE T N sc o x && okEs T N sc es xs
  | sc, .lc _ tg k ie cs e own, .ListComp elt [⟨tx, iter, ifs, 0⟩] scope _ => !T.hot && blkC N sc scope own && okTg N scope tg tx && (tgIs tg).all (fun i => (own.map (·.2)).contains i) && nset iter && okI T N sc k ie iter &&
      okTs T N (relS scope sc) cs ifs && okE T N (relS scope sc) e elt
  | _, .dnew, .Dict [] [] _ => true
  | _, .dnewF, .Dict [] [] _ => true
  | sc, .frz e, x => okE T N sc e x
  | sc, .isx c a, .Call (.Name x _) [e, .Name y _] [] _ => T.hot && okG sc x && decide (x = "isinstance") && okG sc y && decide (T.cn[c]? = some y) && nst e && okE T N sc a e
  | sc, .act i, .Call (.Name x _) [] [] _ => okV N sc i x
  | sc, .ask g body, .Call (.Name x _) [.Lambda ps lb scope _] [] _ => T.ask && okG sc x && decide (T.nm[g]? = some x) && LamX.lamSB sc scope && noPs ps && okE T.plain N scope body lb
  | _, _, _ => false
def okT (T : Tab) (N : List Str) : Scope → Te → Expr → Bool
  | sc, .e a, x => (tplain x || isC a x) && okE T N sc a x
  | sc, .and a b, .BoolOp .And (x :: y :: r) pos => okT T N sc a x && (match r with
    | [] => okT T N sc b y
    | z :: t => okT T N sc b (.BoolOp .And (y :: z :: t) pos))
  | sc, .or a b, .BoolOp .Or (x :: y :: r) pos => okT T N sc a x && (match r with
    | [] => okT T N sc b y
    | z :: t => okT T N sc b (.BoolOp .Or (y :: z :: t) pos))
  | sc, .not a, .UnaryOp .Not x _ => okT T N sc a x
  | _, _, _ => false
def okEs (T : Tab) (N : List Str) : Scope → Exs → List Expr → Bool
  | _, .nil, [] => true
  | sc, .cons e es, x :: xs => okE T N sc e x && okEs T N sc es xs
  | _, _, _ => false
def okTs (T : Tab) (N : List Str) : Scope → Tes → List Expr → Bool
  | _, .nil, [] => true
  | sc, .cons e .nil, [x] => okT T N sc e x
  | _, _, _ => false
def okO (T : Tab) (N : List Str) : Scope → Eo → Option Expr → Bool
  | _, .no, none => true
  | sc, .so e, some x => okE T N sc e x
  | _, _, _ => false
/-- what is walked -/
def okI (T : Tab) (N : List Str) : Scope → Ik → Exs → Expr → Bool
  | sc, .rng1, .cons a .nil, e => match e with
    | .Call (.Name x _) [e] [] _ => okG sc x && decide (x = "range") && nst e && okE T N sc a e
    | _ => false
  | sc, .rng2, .cons a (.cons b .nil), e => match e with
    | .Call (.Name x _) [e, e2] [] _ => okG sc x && decide (x = "range") && nst e && nst e2 && okE T N sc a e && okE T N sc b e2
    | _ => false
  | sc, .lst, .cons a .nil, e => okE T N sc a e
  | sc, .tup, .cons a .nil, e => okE T N sc a e
  | sc, .str, .cons a .nil, e => okE T N sc a e
  | _, _, _, _ => false
end
/-! the checks -/
def noLc : Expr → Bool
  | .ListComp _ _ _ _ => false
  | .SetComp _ _ _ _ => false
  | .DictComp _ _ _ _ _ => false
  | _ => true
def parOk : Expr → Expr → Bool
  | .Tuple _ _ _, .Tuple _ _ _ => false
  | .Tuple _ _ _, _ => true
  | .Name _ _, _ => true
  | _, _ => false
/-- the name behind as -/
def okAs (N : List Str) (sc : Scope) : Option Nat → Option Str → Bool
  | none, none => true
  | some i, some x => decide (N[i]? = some x) && decide (sc.names.lookup x = some .local)
  | _, _ => false
def okLcA (T : Tab) (N : List Str) (sc : Scope) : Tg → Ex → Expr → Expr → Bool
  | .n i, .lc m tg kk ie cs e own, .Name y py, .ListComp elt gs scope pos => decide (N[i]? = some y) && decide (sc.names.lookup y = some .local) && (py.line == pos.line) && !(scope.names.any fun (n, k) => n == y && (k == .local || k == .cell)) &&
      okE T N sc (.lc m tg kk ie cs e own) (.ListComp elt gs scope pos)
  | _, _, _, _ => false
/-- the store does not swap with the value -/
def noSw (sc : Scope) (t v : Expr) : Bool := noLc v || (match t with
  | .Name y _ => decide (sc.names.lookup y = some .cell)
  | _ => false)
def tgN : Tg → Bool
  | .n _ => true
  | .t _ => false
mutual
def okS (T : Tab) (N : List Str) (sc : Scope) : St → Stmt → Bool
  | .asg tg e, .Assign [t] v _ => ((!T.hot || tgN tg) && noSw sc t v && parOk t v && okTg N sc tg t && okE T N sc e v) || okLcA T N sc tg e t v
  | .setI o i e, .Assign [.Subscript x y _] v _ => noLc v && nsl y && okE T N sc o x && okE T N sc i y && okE T N sc e v
  | .ex e, .Expr v _ => noLc v && okE T N sc e v
  | .ret e, .Return (some v) _ => okE T N sc e v
  | .ifs c a b, .If t x y _ => okT T N sc c t && okSs T N sc a x && okSs T N sc b y
  | .for tg k ie body, .For t iter b [] _ => !T.hot && nset iter && okTg N sc tg t && okI T N sc k ie iter && okSs T N sc body b
  | .whl _ c body, .While t b [] _ => okT T N sc c t && okSs T N sc body b
  | .raise c _, .Raise (some (.Call (.Name x _) [.Constant (.str _) _ _] [] _)) none _ => !T.hot && okG sc x && decide (T.cn[c]? = some x)
  | .try c e body suite, .Try b [.ExceptHandler (some (.Name x _)) nm (s0 :: sr) _] [] [] _ => !T.hot && okAs N sc e nm && okG sc x && decide (T.cn[c]? = some x) && okSs T N sc body b && okSs T.toHot N sc suite (s0 :: sr)
  | .pass, .Pass _ => true
  | _, _ => false
def okSs (T : Tab) (N : List Str) (sc : Scope) : Sts → List Stmt → Bool
  | .nil, [] => true
  | .cons s r, st :: rest => okS T N sc s st && okSs T N sc r rest
  | _, _ => false
end
/-- a def that calls its parameter -/
def okAsk (T : Tab) (N : List Str) (sc : Scope) (A : Asker) : List Stmt → Bool
  | [.Assign [.Name y1 _] v1 _, .Try [.Assign [.Name y2 _] (.Tuple [.Constant k1 _ _, .Call (.Name a _) [] [] _] _ _) _] [.ExceptHandler (some (.Name cx _)) (some en) (s0 :: sr) _] [] [] _, .Return (some (.Name y3 _)) _] =>
    okN N sc A.x y1 && okN N sc A.x y2 && okV N sc A.x y3 && noLc v1 && okE T.toHot N sc A.init v1 && (conE A.init).isSome && okC A.told k1 && okV N sc 0 a && decide (N[A.e]? = some en) && decide (sc.names.lookup en = some .local) && okG sc cx && decide (T.cn[A.c]? = some cx) && okSs T.toHot N sc A.suite (s0 :: sr)
  | _ => false
/-! the program's facts, a context -/
/-- positional parameters alone -/
def plainB (s : Stmt) (ps : List Str) : Prop := ∀ (x qual : Str) (body : List Stmt) (scope : Scope) (kV doc pm : Value) (an : Option Addr) (cdv ct : Value) (us : List Value), us.length = ps.length → bindArgs (PySem.W.fnOf x qual (defArgs s) body scope .none kV doc pm an cdv ct) ⟨us, []⟩ = pure (ps.zip us)
section
variable [sp : Spv]
/-- a promise: what the evaluator says of the f-th def -/
def spF (T : Tab) (k f : Nat) : Sp := fun vs H Q E =>
  vs.length = (T.ps f).length ∧ ∃ (F : Hp) (ms : List Addr) (fx l : Loc) (ws : List W), SRel F ms (fx ++ l) H ∧ RpL F ms vs ws ∧ Fin T E fx F ms H (call T.sub T.dfs k f ws fx l) (kE Q)

/-- the facts of the program -/
structure Facts (T : Tab) (P : Program) (w : World) (K : PySem.W.Frag) (mg : Str → Option Value) (base : Heap) (k : Nat) : Prop where
  fn : T.hot = false → ∀ (f : Nat) (x : Str), T.nm[f]? = some x → FnOk P w K mg base (L2.CX P w) (4 * k + 1) (T.fa f) (T.fd f) (T.ps f) (spF T k f)
  gl : ∀ (f : Nat) (x : Str), T.nm[f]? = some x → mg x = some (.ref (T.fa f)) ∧ PySem.W.keepIn K (.ref (T.fa f)) = true ∧ Binds K (T.fd f) (T.ps f) []
  con : ∀ (x : Str) (d : D), T.con x = some d → ∃ u v, mg x = some u ∧ RelV v u ∧ ∀ (sp : Spv) (F : Hp), @Rep sp F v d
  fr : ∀ x ∈ (["len", "abs", "int", "isinstance", "range", "str", "bool", "list", "tuple", "ValueError"] : List Str), mg x = none
  exc : ∀ (c : Nat) (x : Str), T.cn[c]? = some x → mg x = some (.ref (T.ca c)) ∧ PySem.W.excIn K (T.ca c) He.veBase "ValueError.__new__" = true ∧ PySem.W.keepIn K (.ref (T.ca c)) = true ∧
    PySem.W.subIn K (.ref (T.ca c)) (.type "BaseException") = some true ∧ PySem.W.typeIn K (.ref (T.ca c)) = some (.type "type")
  xc : ∀ (c : Nat) (x : Str), T.cn[c]? = some x → ExcC K (T.ca c)
  kit : ∀ (c c' : Nat) (b : Bool), T.sub c c' = some b → PySem.W.kitOne K (.ref (T.ca c)) (.ref (T.ca c')) = some b
  sbn : ∀ (c c' : Nat) (b : Bool), T.sub c c' = some b → ∃ x, T.cn[c]? = some x
  df : ∀ (f : Nat) (x : Str) (d : Def), T.nm[f]? = some x → T.dfs[f]? = some d → ∃ (s : Stmt) (N : List Str), FunD K x x (defArgs s) (defBody s) (defScope s) [] [] (T.fa f) (T.fd f) ∧ plainB s (T.ps f) ∧ FnScope N (T.ps f) (defScope s) ∧ T.ps f = N.take d.np ∧ d.nl = N.length ∧ ∀ A, askOf d = some A → okAsk T N (defScope s) A (defBody s) = true
  np : ∀ (f : Nat) (df : Def), T.dfs[f]? = some df → df.np = (T.ps f).length
  exm : ∀ (c c' : Nat) (b : Bool), T.sub c c' = some b → PySem.W.exmOne K (.ref (T.ca c)) (.ref (T.ca c')) = some b

/-- a context in which lambdas may be handed -/
structure LamC (k : Nat) (X : Cx) : Prop where
  has : ∃ c P : Addr, LamX.TabB X.base X.mg c P ∧ X.env.code = .ref c ∧ (P, X.env.qual ++ "<lambda>") ∈ Tbs.T ∧ ∀ p ∈ Tbs.T, p.1 = P → p.2 = X.env.qual ++ "<lambda>"
  room : Room (4 * k + 3) X.A
structure Cxt (T : Tab) (k : Nat) (X : Cx) (sc : Scope) (Wx : WX) : Prop where
  facts : Facts T X.prog X.w X.K X.mg X.base k
  sc : X.env.scope = sc
  nd : X.N.Nodup
  calm : T.hot = false → X.calm = true
  room : T.hot = false → Room (4 * k + 1) X.A
  un : X.A.units + 100 < cLine
  tk : T.hot = false → Takes X Wx
  cold : T.hot = false → ∀ a c ds, ¬ sp.P a c ds
  exc : T.hot = true → ∀ a c ds, sp.P a c ds → ∃ (oe : PySem.Obj) (x : Str), (a, oe) ∈ X.pn ∧ Zc (.ref (T.ca c)) none oe ∧ (∃ vs, oe.data = .fields vs) ∧ T.cn[c]? = some x
  lam : T.ask = true → LamC k X
end
theorem Cxt.u64 [sp : Spv] {T : Tab} {k : Nat} {X : Cx} {sc : Scope} {Wx : WX} (C : Cxt T k X sc Wx) : X.A.units + 64 < cLine := by
  have := C.un
  omega
theorem Facts.hotter {sp sp2 : Spv} {T : Tab} {P : Program} {w : World} {K : PySem.W.Frag} {mg : Str → Option Value} {base : Heap} {k : Nat} (f : @Facts _ sp T P w K mg base k) : @Facts _ sp2 T.toHot P w K mg base k := by
  obtain ⟨f1, f2, f3, f4, f5, f6, f7, f8, f9, f10, f11⟩ := f
  exact @Facts.mk _ sp2 _ _ _ _ _ _ _ (fun h => Bool.noConfusion (show true = false from h)) f2 f3 f4 f5 f6 f7 f8 f9 f10 f11
theorem Facts.plain {sp : Spv} {T : Tab} {P : Program} {w : World} {K : PySem.W.Frag} {mg : Str → Option Value} {base : Heap} {k : Nat} (h : T.hot = false) (f : @Facts _ sp T P w K mg base k) : @Facts _ sp T.plain P w K mg base k := by
  obtain ⟨f1, f2, f3, f4, f5, f6, f7, f8, f9, f10, f11⟩ := f
  exact @Facts.mk _ sp _ _ _ _ _ _ _ (fun _ => f1 h) f2 f3 f4 f5 f6 f7 f8 f9 f10 f11
end Vx

set_option maxHeartbeats 4000000
namespace Vx
open PySem PySem.Spec PyProof.Rows L2
variable [tb : Tbs] [sp : Spv]

theorem pe_mono {X : Cx} {e : Expr} {t t' : TE} (h : PE X e t) (m : ∀ σ H Q, t' σ H Q → t σ H Q) : PE X e t' := ⟨fun pins s σ H Q I q => h.run pins s σ H Q I (m σ H Q q)⟩
theorem pt_mono {X : Cx} {e : Expr} {t t' : TT} (h : PT X e t) (m : ∀ σ H Q, t' σ H Q → t σ H Q) : PT X e t' := ⟨fun pins s σ H Q I q => h.run pins s σ H Q I (m σ H Q q)⟩
theorem pi_mono {X : Cx} {g e : Expr} {t t' : TI} (h : PI X g e t) (m : ∀ σ H Q, t' σ H Q → t σ H Q) : PI X g e t' := ⟨fun pins s σ H Q I q => h.run pins s σ H Q I (m σ H Q q)⟩

section
variable {T : Tab} {k : Nat} {X : Cx} {sc : Scope} {Wx : WX} {fx : Loc}
variable {pins : List (Addr × PySem.Obj)} {s : Shared} {σ : L2.St} {H F : Hp} {ms : List Addr} {ρ : Env} {l : Loc}
/-- a part runs -/
theorem runE {β : Type} {e : Expr} {f : Env → Loc → Res W} {g : W → Loc → Res β} {K : β → Loc → Hp → List Addr → Hp → Prop} {Q' : Value → Shared → Prop}
    (ha : PE X e (tE T Wx fx f)) (I : Inv X pins σ H s) (S : SRel F ms (fx ++ l) H) (E : EnvR F ms ρ σ) (h : Fin T (fun c d H' => Wx c d σ H') fx F ms H ((f ρ l).bind g) K)
    (q : ∀ u s1 v H1 F1 ms1 w l1, Inv X pins σ H1 s1 → RelV v u → Stp F ms H F1 ms1 H1 → SRel F1 ms1 (fx ++ l1) H1 → EnvR F1 ms1 ρ σ → Rp F1 ms1 v w → Fin T (fun c d H' => Wx c d σ H') fx F1 ms1 H1 (g w l1) K → Q' u s1) :
    wpAny (model X.prog X.w) X.A (eval e X.env) Q' X.xe s := by
  refine thn (ha.run pins s σ H (fun v H1 => ∃ F1 ms1 w l1, Stp F ms H F1 ms1 H1 ∧ SRel F1 ms1 (fx ++ l1) H1 ∧ Rp F1 ms1 v w ∧ Fin T (fun c d H' => Wx c d σ H') fx F1 ms1 H1 (g w l1) K) I ⟨F, ms, ρ, l, S, E, ?_⟩) fun u s1 ⟨v, H1, I1, r1, F1, ms1, w, l1, t1, S1, p1, h1⟩ => ?_
  · exact (Fin.bind h).mono fun w l1 F1 ms1 H1 t1 S1 z v p => ⟨F1, ms1, w, l1, t1, S1, p, z⟩
  · exact q u s1 v H1 F1 ms1 w l1 I1 r1 t1 S1 (E.stp t1) p1 h1
theorem runT {β : Type} {e : Expr} {f : Env → Loc → Res Bool} {g : Bool → Loc → Res β} {K : β → Loc → Hp → List Addr → Hp → Prop} {Q' : Bool → Shared → Prop}
    (ha : PT X e (tT T Wx fx f)) (I : Inv X pins σ H s) (S : SRel F ms (fx ++ l) H) (E : EnvR F ms ρ σ) (h : Fin T (fun c d H' => Wx c d σ H') fx F ms H ((f ρ l).bind g) K)
    (q : ∀ b s1 H1 F1 ms1 l1, Inv X pins σ H1 s1 → Stp F ms H F1 ms1 H1 → SRel F1 ms1 (fx ++ l1) H1 → EnvR F1 ms1 ρ σ → Fin T (fun c d H' => Wx c d σ H') fx F1 ms1 H1 (g b l1) K → Q' b s1) :
    wpAny (model X.prog X.w) X.A (isTrue e X.env (eval e X.env)) Q' X.xe s := by
  refine thn (ha.run pins s σ H (fun b H1 => ∃ F1 ms1 l1, Stp F ms H F1 ms1 H1 ∧ SRel F1 ms1 (fx ++ l1) H1 ∧ Fin T (fun c d H' => Wx c d σ H') fx F1 ms1 H1 (g b l1) K) I ⟨F, ms, ρ, l, S, E, ?_⟩) fun u s1 ⟨H1, I1, F1, ms1, l1, t1, S1, h1⟩ => ?_
  · exact (Fin.bind h).mono fun w l1 F1 ms1 H1 t1 S1 z => ⟨F1, ms1, l1, t1, S1, z⟩
  · exact q u s1 H1 F1 ms1 l1 I1 t1 S1 (E.stp t1) h1
theorem runA {β : Type} {es : List Expr} {pos : Pos} {f : Env → Loc → Res (List W)} {g : List W → Loc → Res β} {K : β → Loc → Hp → List Addr → Hp → Prop} {Q' : List Value → Shared → Prop}
    (ha : PA X es (tA T Wx fx f)) (I : Inv X pins σ H s) (S : SRel F ms (fx ++ l) H) (E : EnvR F ms ρ σ) (h : Fin T (fun c d H' => Wx c d σ H') fx F ms H ((f ρ l).bind g) K)
    (q : ∀ us s1 vs H1 F1 ms1 ws l1, Inv X pins σ H1 s1 → Vals vs us → Stp F ms H F1 ms1 H1 → SRel F1 ms1 (fx ++ l1) H1 → EnvR F1 ms1 ρ σ → RpL F1 ms1 vs ws → Fin T (fun c d H' => Wx c d σ H') fx F1 ms1 H1 (g ws l1) K → Q' us s1) :
    wpAny (model X.prog X.w) X.A (spliced (backTo pos (starEach es X.env))) Q' X.xe s := by
  refine thn (ha.run pos pins s σ H (fun vs H1 => ∃ F1 ms1 ws l1, Stp F ms H F1 ms1 H1 ∧ SRel F1 ms1 (fx ++ l1) H1 ∧ RpL F1 ms1 vs ws ∧ Fin T (fun c d H' => Wx c d σ H') fx F1 ms1 H1 (g ws l1) K) I ⟨F, ms, ρ, l, S, E, ?_⟩) fun us s1 ⟨vs, H1, I1, r1, F1, ms1, ws, l1, t1, S1, p1, h1⟩ => ?_
  · exact (Fin.bind h).mono fun w l1 F1 ms1 H1 t1 S1 z v p => ⟨F1, ms1, w, l1, t1, S1, p, z⟩
  · exact q us s1 vs H1 F1 ms1 ws l1 I1 r1 t1 S1 (E.stp t1) p1 h1
/-- the end of an expression -/
theorem endE {Q : VK} {v : V} {u : Value} {w : W} (I : Inv X pins σ H s) (r : RelV v u) (S : SRel F ms (fx ++ l) H) (p : Rp F ms v w) (h : Fin T (fun c d H' => Wx c d σ H') fx F ms H (.ok w l) (kE Q)) : EP X pins σ Q u s :=
  ⟨v, H, I, r, Fin.here h S v p⟩
/-- an operation gives a value of the store -/
theorem Fin.kw {Q : VK} {w : W} {E : XK} (h : Fin T E fx F ms H (.ok w l) (kE Q)) : Kw F ms (fx ++ l) H Q w := fun F' H' z t S p => h F' ms H' t S z p
theorem Fin.kd {Q : VK} {d : D} {E : XK} (h : Fin T E fx F ms H (.ok (.d d) l) (kE Q)) : Kd F ms (fx ++ l) H Q d := fun F' H' z t S p => h F' ms H' t S z p

theorem vis_of {N : List Str} {i : Nat} {x : Str} (hs : X.env.scope = sc) (h : okV N sc i x = true) : N[i]? = some x ∧ Vis X.env.scope x ∧ (x == ("__debug__" : Str)) = false ∧ (x == ("__classdict__" : Str)) = false := by
  unfold okV at h
  simp only [Bool.and_eq_true, Bool.or_eq_true, decide_eq_true_eq, Bool.not_eq_true'] at h
  obtain ⟨⟨⟨h1, h2⟩, h3⟩, h4⟩ := h
  refine ⟨h1, ?_, h3, h4⟩
  rw [hs]
  rcases h2 with (h2 | h2) | h2
  · exact .inl h2
  · exact .inr (.inl h2)
  · exact .inr (.inr h2)
theorem gl_of {x : Str} (hs : X.env.scope = sc) (h : okG sc x = true) : Gl X x ∧ (x == ("__debug__" : Str)) = false := by
  unfold okG at h
  simp only [Bool.and_eq_true, decide_eq_true_eq, Bool.not_eq_true'] at h
  refine ⟨?_, h.2⟩
  show X.env.scope.names.lookup x = some .globalImplicit
  rw [hs]; exact h.1

/-! calls -/
theorem call_len {E : XK} {f : Nat} {ws : List W} {fx1 l1 : Loc} {K : W → Loc → Hp → List Addr → Hp → Prop} (np : ∀ (f : Nat) (df : Def), T.dfs[f]? = some df → df.np = (T.ps f).length) (h : Fin T E fx1 F ms H (Vx.call T.sub T.dfs k f ws fx1 l1) K) : ws.length = (T.ps f).length := by
  cases k with
  | zero => exact h.elim
  | succ k =>
    unfold Vx.call at h
    cases q : T.dfs[f]? with
    | none => rw [q] at h; exact h.elim
    | some df =>
      rw [q] at h
      by_cases e : ws.length = df.np
      · rw [e]; exact np f df q
      · simp only [e, if_false] at h
        exact h.elim
theorem spF_rw {f : Nat} {vs : List V} {ws : List W} {Q : VK} {E : XK} (np : ∀ (f : Nat) (df : Def), T.dfs[f]? = some df → df.np = (T.ps f).length) (S : SRel F ms (fx ++ l) H) (p : RpL F ms vs ws)
    (h : Fin T E fx F ms H (Vx.call T.sub T.dfs k f ws fx l) (kE Q)) : spF T k f vs H Q E :=
  ⟨p.len.trans (call_len np h), F, ms, fx, l, ws, S, p, h⟩
theorem spF_ro {f : Nat} {vs : List V} {ws : List W} {Q : VK} {E : XK} (np : ∀ (f : Nat) (df : Def), T.dfs[f]? = some df → df.np = (T.ps f).length) (S : SRel F ms (fx ++ l) H) (p : RpL F ms vs ws)
    (h : Fin T E fx F ms H (roCall (Vx.call T.sub T.dfs k) fx f ws l) (kE Q)) : spF T k f vs H Q E := by
  have key : Fin T E (fx ++ l) F ms H (Vx.call T.sub T.dfs k f ws (fx ++ l) []) (kE Q) := by
    unfold roCall at h
    cases q : Vx.call T.sub T.dfs k f ws (fx ++ l) [] with
    | bad => rw [q] at h; exact h.elim
    | exc c p l' =>
      rw [q] at h
      exact fun e F' ms' H' t S' => h e F' ms H' t.cut (S.cut t.pre S')
    | ok w l' =>
      rw [q] at h
      cases w with
      | r n => exact h.elim
      | d x => exact fun F' ms' H' t S' v r => h F' ms H' t.cut (S.cut t.pre S') v r
  exact ⟨p.len.trans (call_len np key), F, ms, fx ++ l, [], ws, by rw [List.append_nil]; exact S, p, key⟩
theorem call_pe {f : Nat} {x : Str} {xs : List Expr} {p pos : Pos} {ro : Bool} {fe : Env → Loc → Res (List W)} (C : Cxt T k X sc Wx) (hh : T.hot = false) (hg : okG sc x = true) (hf : T.nm[f]? = some x) (hx : xs.all nst = true)
    (ha : PA X xs (tA T Wx fx fe)) (hnil : xs = [] → ∀ ρ l, fe ρ l = .ok [] l) : PE X (.Call (.Name x p) xs [] pos) (tE T Wx fx fun ρ l => (fe ρ l).bind fun ws l => match ro with
      | true => roCall (Vx.call T.sub T.dfs k) fx f ws l
      | false => Vx.call T.sub T.dfs k f ws fx l) := by
  obtain ⟨g1, g2⟩ := gl_of C.sc hg
  obtain ⟨m1, m2, m3⟩ := C.facts.gl f x hf
  have FN := C.facts.fn hh f x hf
  have np := C.facts.np
  refine ⟨fun pins s σ H Q I ⟨F, ms, ρ, l, S, E, h⟩ => ?_⟩
  refine wpAny_Call_Name_kw (ld_glob I g1 m1 ?_ g2)
  have fin : ∀ {us : List Value} {s1 : Shared} {vs : List V} {H1 F1 : Hp} {ms1 : List Addr} {ws : List W} {l1 : Loc}, Inv X pins σ H1 s1 → Vals vs us → SRel F1 ms1 (fx ++ l1) H1 → RpL F1 ms1 vs ws →
      Fin T (fun c d H' => Wx c d σ H') fx F1 ms1 H1 (match ro with
      | true => roCall (Vx.call T.sub T.dfs k) fx f ws l1
      | false => Vx.call T.sub T.dfs k f ws fx l1) (kE Q) → wpAny (model X.prog X.w) X.A (PySem.call (.ref (T.fa f)) us) (EP X pins σ Q) X.xe s1 := by
    intro us s1 vs H1 F1 ms1 ws l1 I1 r1 S1 p1 h1
    refine run_fnS (E := fun σ => WE Wx σ) FN (C.room hh) m3 (passAt (C.tk hh) σ) I1 r1 ?_
    cases ro with
    | true => exact spF_ro np S1 p1 h1
    | false => exact spF_rw np S1 p1 h1
  cases xs with
  | nil =>
    refine PySem.W.callWith_K0 I.kIn m2 ?_
    dsimp only at h
    rw [hnil rfl ρ l] at h
    exact fin (us := []) (vs := []) (ws := []) I .nil S trivial h
  | cons e es =>
    have h' : nst e = true ∧ es.all nst = true := by simpa using hx
    refine PySem.W.callWith_K (h₀ := X.base) I.ok.mod.kin m2 (runA ha I S E h fun us s1 vs H1 F1 ms1 ws l1 I1 r1 t1 S1 E1 p1 h1 => ⟨I1.kIn, ?_⟩) (star_cons h'.1) (star_any h'.2)
    exact fin I1 r1 S1 p1 h1

/-! small rules -/
theorem bin_pe {o : Op2} {op : Operator} {a b : Expr} {fa fb : Env → Loc → Res W} {pos : Pos} (ho : okBin o op = true) (ha : PE X a (tE T Wx fx fa)) (hb : PE X b (tE T Wx fx fb)) :
    PE X (.BinOp a op b pos) (tE T Wx fx fun ρ l => (fa ρ l).bind fun x l => (fb ρ l).bind fun y l => ret (op2W (fx ++ l) o x y) l) := by
  refine ⟨fun pins s σ H Q I ⟨F, ms, ρ, l, S, E, h⟩ => ?_⟩
  refine wpAny_BinOp (runE ha I S E h fun u s1 v H1 F1 ms1 w l1 I1 r1 t1 S1 E1 p1 h1 => runE hb I1 S1 E1 h1 fun u2 s2 v2 H2 F2 ms2 w2 l2 I2 r2 t2 S2 E2 p2 h2 => ?_)
  obtain ⟨d, e, h3⟩ := Fin.ret h2
  exact ow_bin ho pins s2 σ H2 F2 ms2 (fx ++ l2) v v2 u u2 w w2 d Q I2 r1 r2 S2 (p1.stp t2) p2 e h3.kw
theorem cmp_pe {o : Op2} {op : CmpOp} {a b : Expr} {fa fb : Env → Loc → Res W} {pos : Pos} (C : Cxt T k X sc Wx) (ho : okCmp o op = true) (hn : nset b = true) (ha : PE X a (tE T Wx fx fa)) (hb : PE X b (tE T Wx fx fb)) :
    PE X (.Compare a [op] [b] pos) (tE T Wx fx fun ρ l => (fa ρ l).bind fun x l => (fb ρ l).bind fun y l => ret (op2W (fx ++ l) o x y) l) := by
  refine ⟨fun pins s σ H Q I ⟨F, ms, ρ, l, S, E, h⟩ => ?_⟩
  refine wpAny_Compare1 (runE ha I S E h fun u s1 v H1 F1 ms1 w l1 I1 r1 t1 S1 E1 p1 h1 => runE hb I1 S1 E1 h1 fun u2 s2 v2 H2 F2 ms2 w2 l2 I2 r2 t2 S2 E2 p2 h2 => ?_) (marks_id op hn)
  obtain ⟨d, e, h3⟩ := Fin.ret h2
  exact ow_cmp C.u64 ho pins s2 σ H2 F2 ms2 (fx ++ l2) v v2 u u2 w w2 d Q I2 r1 r2 S2 (p1.stp t2) p2 e h3.kw
theorem cmp_pt {o : Op2} {op : CmpOp} {a b : Expr} {fa fb : Env → Loc → Res W} {pos : Pos} (C : Cxt T k X sc Wx) (ho : okCmp o op = true) (hn : nset b = true) (ha : PE X a (tE T Wx fx fa)) (hb : PE X b (tE T Wx fx fb)) :
    PT X (.Compare a [op] [b] pos) (tT T Wx fx fun ρ l => ((fa ρ l).bind fun x l => (fb ρ l).bind fun y l => ret (op2W (fx ++ l) o x y) l).bind fun x l => ret (trW (fx ++ l) x) l) := by
  refine ⟨fun pins s σ H Q I ⟨F, ms, ρ, l, S, E, h⟩ => ?_⟩
  have h0 : Fin T (fun c d H' => Wx c d σ H') fx F ms H ((fa ρ l).bind fun x l => (fb ρ l).bind fun y l => (ret (op2W (fx ++ l) o x y) l).bind fun x l => ret (trW (fx ++ l) x) l) (fun b _ _ _ H' => Q b H') := by
    have e1 : ∀ (r : Res W) (f : W → Loc → Res W) (g : W → Loc → Res Bool), (r.bind f).bind g = r.bind fun a l => (f a l).bind g := fun r f g => by cases r <;> rfl
    dsimp only at h
    rw [e1] at h
    simp only [e1] at h
    exact h
  refine wpAny_isTrue_Compare1 (runE ha I S E h0 fun u s1 v H1 F1 ms1 w l1 I1 r1 t1 S1 E1 p1 h1 => runE hb I1 S1 E1 h1 fun u2 s2 v2 H2 F2 ms2 w2 l2 I2 r2 t2 S2 E2 p2 h2 => ?_) (marks_id op hn)
  cases q : op2W (fx ++ l2) o w w2 with
  | none => rw [q] at h2; exact h2.elim
  | some d =>
    rw [q] at h2
    refine thn (ow_cmp C.u64 ho pins s2 σ H2 F2 ms2 (fx ++ l2) v v2 u u2 w w2 d (fun z H3 => ∃ F3, Stp F2 ms2 H2 F3 ms2 H3 ∧ SRel F3 ms2 (fx ++ l2) H3 ∧ Rp F3 ms2 z d) I2 r1 r2 S2 (p1.stp t2) p2 q fun F' H' z t S p => ⟨F', t, S, p⟩) fun c s3 ⟨z, H3, I3, r3, F3, t3, S3, p3⟩ => ?_
    have h3 : Fin T (fun c d H' => Wx c d σ H') fx F3 ms2 H3 (ret (trW (fx ++ l2) d) l2) (fun b _ _ _ H' => Q b H') := Fin.shift t3 h2
    obtain ⟨b, e, h4⟩ := Fin.ret h3
    exact tr_ok I3 r3 S3 p3 e (Fin.here h4 S3)
def chF (fx : Loc) (o1 o2 : Op2) (fa fb fc : Env → Loc → Res W) : Env → Loc → Res W := fun ρ l => (fa ρ l).bind fun x l => (fb ρ l).bind fun y l => (ret (op2W (fx ++ l) o1 x y) l).bind fun t l => match t with
  | .d (.bl true) => (fc ρ l).bind fun z l => ret (op2W (fx ++ l) o2 y z) l
  | .d (.bl false) => .ok (.d (.bl false)) l
  | _ => .bad
theorem marks2_id {b c : Expr} (op op' : CmpOp) (h : nset c = true) : lastMarks [op, op'] [b, c] = false := marks_id op' h
theorem chain_pe {o1 o2 : Op2} {op1 op2 : CmpOp} {a b c : Expr} {fa fb fc : Env → Loc → Res W} {pos : Pos} (C : Cxt T k X sc Wx) (ho1 : okCmp o1 op1 = true) (ho2 : okCmp o2 op2 = true) (hn : nset c = true) (ha : PE X a (tE T Wx fx fa)) (hb : PE X b (tE T Wx fx fb)) (hc : PE X c (tE T Wx fx fc)) :
    PE X (.Compare a [op1, op2] [b, c] pos) (tE T Wx fx (chF fx o1 o2 fa fb fc)) := by
  refine ⟨fun pins s σ H Q I ⟨F, ms, ρ, l, S, E, h⟩ => ?_⟩
  refine Compare_chain (runE ha I S E h fun u s1 v H1 F1 ms1 w l1 I1 r1 t1 S1 E1 p1 h1 => chain_link (runE hb I1 S1 E1 h1 fun u2 s2 v2 H2 F2 ms2 w2 l2 I2 r2 t2 S2 E2 p2 h2 => ?_)) (marks2_id op1 op2 hn)
  obtain ⟨d, e, h3⟩ := Fin.ret (Fin.bind h2)
  refine thn (ow_cmp C.u64 ho1 pins s2 σ H2 F2 ms2 (fx ++ l2) v v2 u u2 w w2 d (fun z H3 => ∃ F3, Stp F2 ms2 H2 F3 ms2 H3 ∧ SRel F3 ms2 (fx ++ l2) H3 ∧ Rp F3 ms2 z d) I2 r1 r2 S2 (p1.stp t2) p2 e fun F' H' z t S p => ⟨F', t, S, p⟩) fun c3 s3 ⟨z, H3, I3, r3, F3, t3, S3, p3⟩ => ?_
  have h4 := h3 F3 ms2 H3 t3 S3
  cases d with
  | r n => exact h4.elim
  | d x =>
    cases x <;> first | exact h4.elim | skip
    rename_i kk _
    cases (show z = V.bl kk from p3)
    cases r3
    refine wpAny_truthy_bool ?_
    cases kk with
    | false => exact ite_ff (endE (v := V.bl false) (w := .d (.bl false)) I3 rfl S3 rfl h4)
    | true =>
      refine ite_tt (chain_last (runE hc I3 S3 (E2.stp t3) h4 fun u4 s4 v4 H4 F4 ms4 w4 l4 I4 r4 t4 S4 E4 p4 h5 => ?_))
      obtain ⟨d', e', h6⟩ := Fin.ret h5
      exact ow_cmp C.u64 ho2 pins s4 σ H4 F4 ms4 (fx ++ l4) v2 v4 u2 u4 w2 w4 d' Q I4 r2 r4 S4 ((p2.stp t3).stp t4) p4 e' h6.kw
theorem chain_pt {o1 o2 : Op2} {op1 op2 : CmpOp} {a b c : Expr} {fa fb fc : Env → Loc → Res W} {pos : Pos} (C : Cxt T k X sc Wx) (ho1 : okCmp o1 op1 = true) (ho2 : okCmp o2 op2 = true) (hn : nset c = true) (ha : PE X a (tE T Wx fx fa)) (hb : PE X b (tE T Wx fx fb)) (hc : PE X c (tE T Wx fx fc)) :
    PT X (.Compare a [op1, op2] [b, c] pos) (tT T Wx fx fun ρ l => (chF fx o1 o2 fa fb fc ρ l).bind fun x l => ret (trW (fx ++ l) x) l) := by
  refine ⟨fun pins s σ H Q I ⟨F, ms, ρ, l, S, E, h⟩ => ?_⟩
  have e1 : ∀ (r : Res W) (f : W → Loc → Res W) (g : W → Loc → Res Bool), (r.bind f).bind g = r.bind fun a l => (f a l).bind g := fun r f g => by cases r <;> rfl
  have h0 : Fin T (fun c d H' => Wx c d σ H') fx F ms H ((fa ρ l).bind fun x l => (fb ρ l).bind fun y l => ((ret (op2W (fx ++ l) o1 x y) l).bind fun t l => match t with
      | .d (.bl true) => (fc ρ l).bind fun z l => ret (op2W (fx ++ l) o2 y z) l
      | .d (.bl false) => .ok (.d (.bl false)) l
      | _ => .bad).bind fun x l => ret (trW (fx ++ l) x) l) (fun b _ _ _ H' => Q b H') := by
    dsimp only at h
    unfold chF at h
    rw [e1] at h
    have e2 : (fun a l => ((fb ρ l).bind fun y l => (ret (op2W (fx ++ l) o1 a y) l).bind fun t l => match t with
      | .d (.bl true) => (fc ρ l).bind fun z l => ret (op2W (fx ++ l) o2 y z) l
      | .d (.bl false) => .ok (.d (.bl false)) l
      | _ => .bad).bind fun x l => ret (trW (fx ++ l) x) l) = fun x l => (fb ρ l).bind fun y l => ((ret (op2W (fx ++ l) o1 x y) l).bind fun t l => match t with
      | .d (.bl true) => (fc ρ l).bind fun z l => ret (op2W (fx ++ l) o2 y z) l
      | .d (.bl false) => .ok (.d (.bl false)) l
      | _ => .bad).bind fun x l => ret (trW (fx ++ l) x) l := by
      funext a l
      exact e1 _ _ _
    rw [e2] at h
    exact h
  refine isTrue_chain (runE ha I S E h0 fun u s1 v H1 F1 ms1 w l1 I1 r1 t1 S1 E1 p1 h1 => test_link (runE hb I1 S1 E1 h1 fun u2 s2 v2 H2 F2 ms2 w2 l2 I2 r2 t2 S2 E2 p2 h2 => ?_)) (marks2_id op1 op2 hn)
  rw [e1] at h2
  obtain ⟨d, e, h3⟩ := Fin.ret (Fin.bind h2)
  refine thn (ow_cmp C.u64 ho1 pins s2 σ H2 F2 ms2 (fx ++ l2) v v2 u u2 w w2 d (fun z H3 => ∃ F3, Stp F2 ms2 H2 F3 ms2 H3 ∧ SRel F3 ms2 (fx ++ l2) H3 ∧ Rp F3 ms2 z d) I2 r1 r2 S2 (p1.stp t2) p2 e fun F' H' z t S p => ⟨F', t, S, p⟩) fun c3 s3 ⟨z, H3, I3, r3, F3, t3, S3, p3⟩ => ?_
  have h4 := h3 F3 ms2 H3 t3 S3
  cases d with
  | r n => exact h4.elim
  | d x =>
    cases x <;> first | exact h4.elim | skip
    rename_i kk _
    cases (show z = V.bl kk from p3)
    cases r3
    refine wpAny_truthy_bool ?_
    cases kk with
    | false => exact ite_ff ⟨H3, I3, Fin.here (a := false) h4 S3⟩
    | true =>
      have h4' : Fin T (fun c d H' => Wx c d σ H') fx F3 ms2 H3 ((fc ρ l2).bind fun z l => (ret (op2W (fx ++ l) o2 w2 z) l).bind fun x l => ret (trW (fx ++ l) x) l) (fun b _ _ _ H' => Q b H') := by
        rw [← e1]; exact h4
      refine ite_tt (test_last (runE hc I3 S3 (E2.stp t3) h4' fun u4 s4 v4 H4 F4 ms4 w4 l4 I4 r4 t4 S4 E4 p4 h5 => ?_))
      obtain ⟨d', e', h6⟩ := Fin.ret (Fin.bind h5)
      refine thn (ow_cmp C.u64 ho2 pins s4 σ H4 F4 ms4 (fx ++ l4) v2 v4 u2 u4 w2 w4 d' (fun z H5 => ∃ F5, Stp F4 ms4 H4 F5 ms4 H5 ∧ SRel F5 ms4 (fx ++ l4) H5 ∧ Rp F5 ms4 z d') I4 r2 r4 S4 ((p2.stp t3).stp t4) p4 e' fun F' H' z t S p => ⟨F', t, S, p⟩) fun c5 s5 ⟨z5, H5, I5, r5, F5, t5, S5, p5⟩ => ?_
      have h7 := Fin.shift (r := ret (trW (fx ++ l4) d') l4) t5 (h6 F4 ms4 H4 Stp.refl S4)
      obtain ⟨b, e7, h8⟩ := Fin.ret h7
      exact tr_ok I5 r5 S5 p5 e7 (Fin.here h8 S5)
theorem and_pe {a b : Expr} {rest : List Expr} {fa fb : Env → Loc → Res W} {pos : Pos} (ha : PE X a (tE T Wx fx fa)) (hb : PE X (.BoolOp .And (b :: rest) pos) (tE T Wx fx fb)) :
    PE X (.BoolOp .And (a :: b :: rest) pos) (tE T Wx fx fun ρ l => (fa ρ l).bind fun x l => (ret (trW (fx ++ l) x) l).bind fun t l => match t with
      | true => fb ρ l
      | false => .ok x l) := by
  refine ⟨fun pins s σ H Q I ⟨F, ms, ρ, l, S, E, h⟩ => ?_⟩
  refine BoolOp_and (runE ha I S E h fun u s1 v H1 F1 ms1 w l1 I1 r1 t1 S1 E1 p1 h1 => ?_)
  obtain ⟨t, e, h2⟩ := Fin.ret (Fin.bind h1)
  have h3 := Fin.here h2 S1
  refine thn (tr_ok (Q := fun c H2 => c = t ∧ H2 = H1) I1 r1 S1 p1 e ⟨rfl, rfl⟩) fun c s2 hc => ?_
  obtain ⟨H2, I2, e1, e2⟩ := hc
  subst e1
  rw [e2] at I2
  cases c with
  | true => exact hb.run pins s2 σ H1 Q I2 ⟨F1, ms1, ρ, l1, S1, E1, h3⟩
  | false => exact endE I2 r1 S1 p1 h3
theorem or_pe {a b : Expr} {rest : List Expr} {fa fb : Env → Loc → Res W} {pos : Pos} (ha : PE X a (tE T Wx fx fa)) (hb : PE X (.BoolOp .Or (b :: rest) pos) (tE T Wx fx fb)) :
    PE X (.BoolOp .Or (a :: b :: rest) pos) (tE T Wx fx fun ρ l => (fa ρ l).bind fun x l => (ret (trW (fx ++ l) x) l).bind fun t l => match t with
      | true => .ok x l
      | false => fb ρ l) := by
  refine ⟨fun pins s σ H Q I ⟨F, ms, ρ, l, S, E, h⟩ => ?_⟩
  refine BoolOp_or (runE ha I S E h fun u s1 v H1 F1 ms1 w l1 I1 r1 t1 S1 E1 p1 h1 => ?_)
  obtain ⟨t, e, h2⟩ := Fin.ret (Fin.bind h1)
  have h3 := Fin.here h2 S1
  refine thn (tr_ok (Q := fun c H2 => c = t ∧ H2 = H1) I1 r1 S1 p1 e ⟨rfl, rfl⟩) fun c s2 hc => ?_
  obtain ⟨H2, I2, e1, e2⟩ := hc
  subst e1
  rw [e2] at I2
  cases c with
  | true => exact endE I2 r1 S1 p1 h3
  | false => exact hb.run pins s2 σ H1 Q I2 ⟨F1, ms1, ρ, l1, S1, E1, h3⟩
theorem not_pe {a : Expr} {fa : Env → Loc → Res W} {pos : Pos} (ha : PE X a (tE T Wx fx fa)) :
    PE X (.UnaryOp .Not a pos) (tE T Wx fx fun ρ l => (fa ρ l).bind fun x l => (ret (trW (fx ++ l) x) l).bind fun t l => .ok (.d (.bl (!t))) l) := by
  refine ⟨fun pins s σ H Q I ⟨F, ms, ρ, l, S, E, h⟩ => ?_⟩
  refine UnaryOp_ (runE ha I S E h fun u s1 v H1 F1 ms1 w l1 I1 r1 t1 S1 E1 p1 h1 => ?_)
  obtain ⟨t, e, h2⟩ := Fin.ret (Fin.bind h1)
  have h3 := Fin.here h2 S1
  refine not_of (thn (tr_ok (Q := fun c H2 => c = t ∧ H2 = H1) I1 r1 S1 p1 e ⟨rfl, rfl⟩) fun c s2 hc => ?_)
  obtain ⟨H2, I2, e1, e2⟩ := hc
  subst e1
  rw [e2] at I2
  exact endE (v := V.bl (!c)) (w := .d (.bl (!c))) I2 rfl S1 rfl h3
theorem neg_pe {a : Expr} {fa : Env → Loc → Res W} {pos : Pos} (ha : PE X a (tE T Wx fx fa)) :
    PE X (.UnaryOp .USub a pos) (tE T Wx fx fun ρ l => (fa ρ l).bind fun x l => match x with
      | .d (.int i) => .ok (.d (.int (-i))) l
      | _ => .bad) := by
  refine ⟨fun pins s σ H Q I ⟨F, ms, ρ, l, S, E, h⟩ => ?_⟩
  refine UnaryOp_ (runE ha I S E h fun u s1 v H1 F1 ms1 w l1 I1 r1 t1 S1 E1 p1 h1 => ?_)
  cases w with
  | r n => exact h1.elim
  | d x =>
    cases x <;> first | exact h1.elim | skip
    rename_i i
    cases (show v = V.int i from p1)
    exact un_neg pins s1 σ H1 _ u Q I1 r1 ⟨i, rfl, Fin.here h1 S1 _ rfl⟩
theorem ite_pe {c a b : Expr} {fc : Env → Loc → Res Bool} {fa fb : Env → Loc → Res W} {pos : Pos} (hc : PT X c (tT T Wx fx fc)) (ha : PE X a (tE T Wx fx fa)) (hb : PE X b (tE T Wx fx fb)) :
    PE X (.IfExp c a b pos) (tE T Wx fx fun ρ l => (fc ρ l).bind fun t l => match t with
      | true => fa ρ l
      | false => fb ρ l) := by
  refine ⟨fun pins s σ H Q I ⟨F, ms, ρ, l, S, E, h⟩ => ?_⟩
  refine wpAny_IfExp (runT hc I S E h fun t s1 H1 F1 ms1 l1 I1 t1 S1 E1 h1 => ?_)
  cases t with
  | true => exact ha.run pins s1 σ H1 Q I1 ⟨F1, ms1, ρ, l1, S1, E1, h1⟩
  | false => exact hb.run pins s1 σ H1 Q I1 ⟨F1, ms1, ρ, l1, S1, E1, h1⟩
theorem tup_pe {es : List Expr} {fe : Env → Loc → Res (List W)} {n : Nat} {pos : Pos} (ha : PA X es (tA T Wx fx fe)) :
    PE X (.Tuple es n pos) (tE T Wx fx fun ρ l => (fe ρ l).bind fun ws l => ret ((unW ws).bind fun ds => if ds.length ≤ 16777216 then some (.d (.tup ds)) else none) l) := by
  refine pe_mono (pe_tup ha) fun σ H Q ⟨F, ms, ρ, l, S, E, h⟩ => ⟨F, ms, ρ, l, S, E, (Fin.bind h).mono fun ws l1 F1 ms1 H1 t1 S1 z vs p => ?_⟩
  obtain ⟨w, e, h1⟩ := Fin.ret z
  cases q : unW ws with
  | none => rw [q] at e; cases e
  | some ds =>
    rw [q] at e
    have e2 : (if ds.length ≤ 16777216 then some (W.d (.tup ds)) else none) = some w := e
    split at e2
    · rename_i hz
      cases e2
      have R := p.un q
      exact ⟨by rw [R.len, line_eq]; exact hz, fun r hr => h1.kd.tup S1 R hr⟩
    · cases e2
theorem mk_lst {m : Bool} {ws : List W} {vs : List V} {E : XK} {Q : VK} (S : SRel F ms (fx ++ l) H) (p : RpL F ms vs ws) (h : Fin T E fx F ms H (mkLst m fx ws l) (kE Q)) :
    vs.length ≤ sizeLine ∧ ∀ r, H r = none → Q (.ref r) (upd H r (.lst vs)) := by
  unfold mkLst at h
  split at h
  · rename_i hz
    refine ⟨by rw [p.len, line_eq]; exact hz, fun r hr => ?_⟩
    cases m with
    | true =>
      have S2 : SRel F (ms ++ [r]) (fx ++ (l ++ [.lst ws])) (upd H r (.lst vs)) := by
        rw [← List.append_assoc]
        exact S.make hr ⟨S.notF hr, vs, upd_same, p.mono (fun _ _ h => h) (List.prefix_append _ _)⟩
      refine h F (ms ++ [r]) _ (Stp.make hr) S2 _ ⟨r, ?_, rfl⟩
      have e : fx.length + l.length = ms.length := by rw [S.len, List.length_append]
      rw [e, List.getElem?_append_right (Nat.le_refl _), Nat.sub_self]; rfl
    | false =>
      obtain ⟨w, e, h1⟩ := Fin.ret h
      cases q : unW ws with
      | none => rw [q] at e; cases e
      | some ds =>
        rw [q] at e
        cases (show some (W.d (.lst ds)) = some w from e)
        exact h1.kd.lst S (p.un q) hr
  · exact h.elim
theorem dnew_pe {pos : Pos} : PE X (.Dict [] [] pos) (tE T Wx fx fun ρ l => .ok (.r (fx.length + l.length)) (l ++ [.dct []])) := by
  refine pe_mono pe_dnewK fun σ H Q ⟨F, ms, ρ, l, S, E, h⟩ p hp => ?_
  have hF := S.notF hp
  have S2 : SRel F (ms ++ [p]) (fx ++ (l ++ [Obj.dct []])) (upd H p (.dK [])) := by
    rw [← List.append_assoc]
    exact S.make hp ⟨hF, [], upd_same, trivial⟩
  refine h F (ms ++ [p]) _ (Stp.make hp) S2 _ ⟨p, ?_, rfl⟩
  have e : fx.length + l.length = ms.length := by rw [S.len, List.length_append]
  rw [e, List.getElem?_append_right (Nat.le_refl _), Nat.sub_self]; rfl
theorem dnewF_pe {pos : Pos} : PE X (.Dict [] [] pos) (tE T Wx fx fun ρ l => .ok (.d (.dct [])) l) := by
  refine pe_mono pe_dnewK fun σ H Q ⟨F, ms, ρ, l, S, E, h⟩ p hp => ?_
  have t := Stp.lay (o := .dK []) S hp
  refine h _ ms _ t (S.lay hp) _ ?_
  show Rep _ _ (.dct [])
  unfold Rep
  exact ⟨rfl, p, rfl, upd_same⟩
theorem lst_pe {m : Bool} {es : List Expr} {fe : Env → Loc → Res (List W)} {pos : Pos} (ha : PA X es (tA T Wx fx fe)) : PE X (.List es pos) (tE T Wx fx fun ρ l => (fe ρ l).bind fun ws l => mkLst m fx ws l) :=
  pe_mono (pe_lst ha) fun σ H Q ⟨F, ms, ρ, l, S, E, h⟩ => ⟨F, ms, ρ, l, S, E, (Fin.bind h).mono fun ws l1 F1 ms1 H1 t1 S1 z vs p => mk_lst S1 p z⟩
theorem idx_pe {a b : Expr} {fa fb : Env → Loc → Res W} {pos : Pos} (C : Cxt T k X sc Wx) (hn : nsl b = true) (ha : PE X a (tE T Wx fx fa)) (hb : PE X b (tE T Wx fx fb)) :
    PE X (.Subscript a b pos) (tE T Wx fx fun ρ l => (fa ρ l).bind fun x l => (fb ρ l).bind fun y l => ret (idxW (fx ++ l) x y) l) := by
  refine ⟨fun pins s σ H Q I ⟨F, ms, ρ, l, S, E, h⟩ => ?_⟩
  refine Subscript_ (runE ha I S E h fun u s1 v H1 F1 ms1 w l1 I1 r1 t1 S1 E1 p1 h1 => runE hb I1 S1 E1 h1 fun u2 s2 v2 H2 F2 ms2 w2 l2 I2 r2 t2 S2 E2 p2 h2 => ?_)
  obtain ⟨d, e, h3⟩ := Fin.ret h2
  exact ix_ok (by have := C.un; omega) I2 r1 r2 S2 (p1.stp t2) p2 e h3.kw (plain_ix hn _ _)
/-- an optional part -/
def tO (T : Tab) (Wx : WX) (fx : Loc) (f : Env → Loc → Res (Option Int)) : TO := fun σ H Q =>
  ∃ (F : Hp) (ms : List Addr) (ρ : Env) (l : Loc), SRel F ms (fx ++ l) H ∧ EnvR F ms ρ σ ∧ Fin T (fun c d H' => Wx c d σ H') fx F ms H (f ρ l) (fun o _ _ _ H' => Q o H')
theorem po_no : PO X none (tO T Wx fx fun _ l => .ok none l) := by
  refine ⟨fun pins s σ H Q I ⟨F, ms, ρ, l, S, E, h⟩ => ?_⟩
  exact po_none.run pins s σ H Q I (Fin.here h S)
theorem po_so {e : Expr} {f : Env → Loc → Res W} (ha : PE X e (tE T Wx fx f)) : PO X (some e) (tO T Wx fx fun ρ l => (f ρ l).bind fun w l => match w with
    | .d (.int i) => .ok (some i) l
    | _ => .bad) := by
  refine ⟨fun pins s σ H Q I ⟨F, ms, ρ, l, S, E, h⟩ => ?_⟩
  refine (po_some ha).run pins s σ H Q I ⟨F, ms, ρ, l, S, E, (Fin.bind h).mono fun w l1 F1 ms1 H1 t1 S1 z v p => ?_⟩
  cases w with
  | r n => exact z.elim
  | d x =>
    cases x <;> first | exact z.elim | skip
    rename_i i
    cases (show v = V.int i from p)
    exact ⟨i, rfl, Fin.here z S1⟩
theorem sl_pe {a : Expr} {lo hi : Option Expr} {fa : Env → Loc → Res W} {fl fh : Env → Loc → Res (Option Int)} {pos p2 : Pos} (ha : PE X a (tE T Wx fx fa)) (hl : PO X lo (tO T Wx fx fl)) (hh : PO X hi (tO T Wx fx fh)) :
    PE X (.Subscript a (.Slice lo hi none p2) pos) (tE T Wx fx fun ρ l => (fa ρ l).bind fun x l => (fl ρ l).bind fun p l => (fh ρ l).bind fun q l =>
      ret ((pk (fx ++ l) x).bind fun d => (slD d p q).map .d) l) := by
  refine pe_mono (pe_slice sl_ok ha hl hh) fun σ H Q ⟨F, ms, ρ, l, S, E, h⟩ => ⟨F, ms, ρ, l, S, E, (Fin.bind h).mono fun w l1 F1 ms1 H1 t1 S1 z1 v p =>
    ⟨F1, ms1, ρ, l1, S1, E.stp t1, (Fin.bind z1).mono fun a l2 F2 ms2 H2 t2 S2 z2 => ⟨F2, ms2, ρ, l2, S2, (E.stp t1).stp t2, (Fin.bind z2).mono fun b l3 F3 ms3 H3 t3 S3 z3 => ?_⟩⟩⟩
  obtain ⟨wr, e, h1⟩ := Fin.ret z3
  cases q : pk (fx ++ l3) w with
  | none => rw [q] at e; cases e
  | some d =>
    rw [q] at e
    cases q2 : slD d a b with
    | none => simp [q2] at e
    | some d2 =>
      simp [q2] at e
      subst e
      exact ⟨F3, ms3, fx ++ l3, d, d2, S3, S3.pk ((p.stp t2).stp t3) q, q2, h1.kd⟩
/-! built-in functions and methods -/
theorem bi_pe {b : Bi} {x : Str} {e : Expr} {fa : Env → Loc → Res W} {p pos : Pos} (C : Cxt T k X sc Wx) (hg : okG sc x = true) (hx : x = biName b) (hb : ∀ t, b ≠ .isi t) (hn : nst e = true) (ha : PE X e (tE T Wx fx fa)) :
    PE X (.Call (.Name x p) [e] [] pos) (tE T Wx fx fun ρ l => (fa ρ l).bind fun x l => ret ((pk (fx ++ l) x).bind fun d => (biD b d).map .d) l) := by
  obtain ⟨g1, g2⟩ := gl_of C.sc hg
  have key : ∀ {f : Value}, FnD X f (biD b) → CallR X f (fun xs H Q => ∃ (v : V) (F : Hp) (ms : List Addr) (l : Loc) (w wr : W), xs = [v] ∧ SRel F ms (fx ++ l) H ∧ Rp F ms v w ∧ ((pk (fx ++ l) w).bind fun d => (biD b d).map .d) = some wr ∧ Kw F ms (fx ++ l) H Q wr) := by
    intro f hf pins s σ H xs us Q I r ⟨v, F, ms, l, w, wr, ex, S, p, e, k⟩
    cases q : pk (fx ++ l) w with
    | none => rw [q] at e; cases e
    | some d =>
      rw [q] at e
      cases q2 : biD b d with
      | none => simp [q2] at e
      | some d2 =>
        simp [q2] at e
        subst e
        exact hf pins s σ H xs us Q I r ⟨v, F, ms, fx ++ l, d, d2, ex, S, S.pk p q, q2, fun F' H' z t S p => k F' H' z t S p⟩
  have fin : ∀ {r : List V → Hp → VK → Prop}, (∀ xs H Q, (∃ (v : V) (F : Hp) (ms : List Addr) (l : Loc) (w wr : W), xs = [v] ∧ SRel F ms (fx ++ l) H ∧ Rp F ms v w ∧ ((pk (fx ++ l) w).bind fun d => (biD b d).map .d) = some wr ∧ Kw F ms (fx ++ l) H Q wr) → r xs H Q) →
      PE X (.Call (.Name x p) [e] [] pos) (tCB r (tCons (tE T Wx fx fa) tNil)) → PE X (.Call (.Name x p) [e] [] pos) (tE T Wx fx fun ρ l => (fa ρ l).bind fun x l => ret ((pk (fx ++ l) x).bind fun d => (biD b d).map .d) l) := by
    intro r hr hp
    refine pe_mono hp fun σ H Q ⟨F, ms, ρ, l, S, E, h⟩ => ⟨F, ms, ρ, l, S, E, (Fin.bind h).mono fun w l1 F1 ms1 H1 t1 S1 z1 v p => hr _ _ _ ?_⟩
    obtain ⟨wr, e, h1⟩ := Fin.ret z1
    exact ⟨v, F1, ms1, l1, w, wr, rfl, S1, p, e, h1.kw⟩
  have hA : PA X [e] (tCons (tE T Wx fx fa) tNil) := pa_cons ha pa_nil (star_cons hn)
  subst hx
  cases b with
  | len => exact fin (fun _ _ _ h => h) (pe_callB (key fd_len) g1 (C.facts.fr _ (by simp [biName])) (by decide +kernel) hA (by decide +kernel) (by decide +kernel) (star_cons hn))
  | abs => exact fin (fun _ _ _ h => h) (pe_callB (key fd_abs) g1 (C.facts.fr _ (by simp [biName])) (by decide +kernel) hA (by decide +kernel) (by decide +kernel) (star_cons hn))
  | int => exact fin (fun _ _ _ h => h) (pe_callTy (key fd_int) g1 (C.facts.fr _ (by simp [biName])) (by decide +kernel) hA (by decide +kernel) (by decide +kernel) (star_cons hn))
  | isi t => exact absurd rfl (hb t)
theorem ty_pe {t : Ty} {y : Str} {p : Pos} (C : Cxt T k X sc Wx) (hg : okG sc y = true) (hy : y = Str.ofString (tyName t)) (ht : ∀ c, t ≠ .cls c) : PE X (.Name y p) (tC (.ty (tyName t))) := by
  obtain ⟨g1, g2⟩ := gl_of C.sc hg
  subst hy
  cases t with
  | cls c => exact absurd rfl (ht c)
  | str => exact pe_bltn g1 (C.facts.fr _ (by simp [tyName])) (by decide +kernel) rfl (by decide +kernel) g2
  | bool => exact pe_bltn g1 (C.facts.fr _ (by simp [tyName])) (by decide +kernel) rfl (by decide +kernel) g2
  | int => exact pe_bltn g1 (C.facts.fr _ (by simp [tyName])) (by decide +kernel) rfl (by decide +kernel) g2
  | lst => exact pe_bltn g1 (C.facts.fr _ (by simp [tyName])) (by decide +kernel) rfl (by decide +kernel) g2
  | tup => exact pe_bltn g1 (C.facts.fr _ (by simp [tyName])) (by decide +kernel) rfl (by decide +kernel) g2
theorem isi_pe {t : Ty} {x y : Str} {e : Expr} {fa : Env → Loc → Res W} {p p2 pos : Pos} (C : Cxt T k X sc Wx) (hg : okG sc x = true) (hx : x = "isinstance") (hg2 : okG sc y = true) (hy : y = Str.ofString (tyName t)) (ht : ∀ c, t ≠ .cls c) (hn : nst e = true) (ha : PE X e (tE T Wx fx fa)) :
    PE X (.Call (.Name x p) [e, .Name y p2] [] pos) (tE T Wx fx fun ρ l => (fa ρ l).bind fun x l => ret ((pk (fx ++ l) x).bind fun d => (biD (.isi t) d).map .d) l) := by
  obtain ⟨g1, g2⟩ := gl_of C.sc hg
  subst hx
  have hA : PA X [e, .Name y p2] (tCons (tE T Wx fx fa) (tCons (tC (.ty (tyName t))) tNil)) := pa_cons ha (pa_cons (ty_pe C hg2 hy ht) pa_nil) (star_cons hn)
  have key : CallR X (.builtin "isinstance") (fun xs H Q => ∃ (v : V) (F : Hp) (ms : List Addr) (l : Loc) (w wr : W), xs = [v, .ty (tyName t)] ∧ SRel F ms (fx ++ l) H ∧ Rp F ms v w ∧ ((pk (fx ++ l) w).bind fun d => (biD (.isi t) d).map .d) = some wr ∧ Kw F ms (fx ++ l) H Q wr) := by
    intro pins s σ H xs us Q I r ⟨v, F, ms, l, w, wr, ex, S, p, e, k⟩
    cases q : pk (fx ++ l) w with
    | none => rw [q] at e; cases e
    | some d =>
      rw [q] at e
      cases q2 : isTy t d with
      | none => simp [biD, q2] at e
      | some b =>
        simp [biD, q2] at e
        subst e
        exact isi_ok q2 pins s σ H xs us Q I r ⟨v, F, ex, S.pk p q, k F H _ Stp.refl S rfl⟩
  refine pe_mono (pe_callB key g1 (C.facts.fr _ (by simp)) (by decide +kernel) hA (by decide +kernel) (by decide +kernel) (star_cons hn)) fun σ H Q ⟨F, ms, ρ, l, S, E, h⟩ => ⟨F, ms, ρ, l, S, E, (Fin.bind h).mono fun w l1 F1 ms1 H1 t1 S1 z1 v p => ?_⟩
  obtain ⟨wr, e, h1⟩ := Fin.ret z1
  exact ⟨v, F1, ms1, l1, w, wr, rfl, S1, p, e, h1.kw⟩

theorem SRel.pks {st : Loc} (S : SRel F ms st H) : ∀ {vs : List V} {ws : List W} {ds : List D}, RpL F ms vs ws → pkL st ws = some ds → Paired (Pk F H) vs ds
  | [], [], ds, _, e => by cases (show some [] = some ds from e); exact .nil
  | v :: vs, w :: ws, ds, ⟨h, t⟩, e => by
    cases q : Vx.pk st w with
    | none => simp [Vx.pkL, q] at e
    | some d =>
      cases q2 : Vx.pkL st ws with
      | none => simp [Vx.pkL, q, q2] at e
      | some es =>
        simp [Vx.pkL, q, q2] at e
        subst e
        exact .cons (S.pk h q) (SRel.pks S t q2)
  | [], _ :: _, _, h, _ => h.elim
  | _ :: _, [], _, h, _ => h.elim
theorem lst_rcv {st : Loc} {w : W} (h : isLstW (Vx.pk st w) = true) : ∃ ds, Vx.pk st w = some (.lst ds) := by
  cases q : Vx.pk st w with
  | none => rw [q] at h; cases h
  | some d =>
    rw [q] at h
    cases d <;> first | exact ⟨_, rfl⟩ | cases h
theorem few_ok {xs : List Expr} {cpos : Pos} {env : PySem.Env} (hx : xs.all nst = true) (hl : Nat.blt xs.length 29 = true) : ((backTo cpos (starEach xs env)).all (fun x => !x.1) && (backToKw cpos (keywordEach [] env)).all (fun x => x.1.isSome)
      && decide (xs.length + ([] : List Keyword).length + (if ([] : List Keyword).isEmpty then 0 else 1) < 30)) = true := by
  have h1 : (backTo cpos (starEach xs env)).all (fun x => !x.1) = true := by
    have h := star_any (pos := cpos) (env := env) hx
    rw [List.any_eq_false] at h
    rw [List.all_eq_true]
    intro x hm
    have := h x hm
    simpa using this
  have h2 : xs.length < 29 := by simpa [Nat.blt_eq] using hl
  rw [h1]
  simp [backToKw, keywordEach]
  omega
theorem str_pe {m : Sm} {id : String} {o : Expr} {xs : List Expr} {apos cpos : Pos} {fa : Env → Loc → Res W} {fe : Env → Loc → Res (List W)}
    (hm0 : strM m = true) (slot : Slot "str" (smName m) id) (hty : typeOf (.builtin id) = pure (.type "method_descriptor")) (hm : MtD X id (smD m)) (hs : nsup o = true) (hline : (apos.endLine == cpos.line) = true) (hx : xs.all nst = true) (hl : Nat.blt xs.length 29 = true)
    (ho : PE X o (tE T Wx fx fa)) (ha : PA X xs (tA T Wx fx fe)) (hnil : xs = [] → ∀ ρ l, fe ρ l = .ok [] l) :
    PE X (.Call (.Attribute o (smName m) apos) xs [] cpos) (tE T Wx fx fun ρ l => (fa ρ l).bind fun x l => match rcv (fx ++ l) m x with
      | true => (fe ρ l).bind fun ws l => smW fx m x ws l
      | false => .bad) := by
  have rc : ∀ {st : Loc} {w : W}, rcv st m w = true → ∃ z, w = .d (.str z) := by
    intro st w h
    cases m <;> first | exact absurd hm0 Bool.false_ne_true | skip
    all_goals
      cases w with
      | r n => cases h
      | d x => cases x <;> first | exact ⟨_, rfl⟩ | cases h
  have sw : ∀ (w : W) (ws : List W) (l : Loc), smW fx m w ws l = ret ((pk (fx ++ l) w).bind fun d => (pkL (fx ++ l) ws).bind fun ds => (smD m d ds).map .d) l := by
    intro w ws l
    cases m <;> first | exact absurd hm0 Bool.false_ne_true | rfl
  have fin : ∀ {pins : List (Addr × PySem.Obj)} {s1 : Shared} {σ : L2.St} {H1 F1 : Hp} {ms1 : List Addr} {l1 : Loc} {v : V} {u : Value} {w : W} {vs : List V} {us : List Value} {ws : List W} {Q : VK}, Inv X pins σ H1 s1 → RelV v u → Vals vs us → SRel F1 ms1 (fx ++ l1) H1 → Rp F1 ms1 v w → RpL F1 ms1 vs ws →
      Fin T (fun c d H' => Wx c d σ H') fx F1 ms1 H1 (smW fx m w ws l1) (kE Q) → wpAny (model X.prog X.w) X.A (PySem.call (.builtin id) (u :: us)) (EP X pins σ Q) X.xe s1 := by
    intro pins s1 σ H1 F1 ms1 l1 v u w vs us ws Q I r rs S p ps h
    rw [sw] at h
    obtain ⟨wr, e, h1⟩ := Fin.ret h
    cases q : pk (fx ++ l1) w with
    | none => rw [q] at e; cases e
    | some d =>
      cases q2 : pkL (fx ++ l1) ws with
      | none => simp [q, q2] at e
      | some ds =>
        cases q3 : smD m d ds with
        | none => simp [q, q2, q3] at e
        | some d2 =>
          simp [q, q2, q3] at e
          subst e
          exact hm pins s1 σ H1 v vs u us Q I r rs ⟨F1, ms1, fx ++ l1, d, ds, d2, S, S.pk p q, SRel.pks S ps q2, q3, h1.kd⟩
  refine ⟨fun pins s σ H Q I ⟨F, ms, ρ, l, S, E, h⟩ => ?_⟩
  cases xs with
  | nil =>
    refine wpAny_Call_method0_late (base_id hs) hline (runE ho I S E h fun u s1 v H1 F1 ms1 w l1 I1 r1 t1 S1 E1 p1 h1 => ?_)
    cases q : rcv (fx ++ l1) m w with
    | false => rw [q] at h1; exact h1.elim
    | true =>
      rw [q] at h1
      obtain ⟨z, rfl⟩ := rc q
      cases (show v = V.str (sx z) from p1)
      obtain ⟨k1, k2⟩ := tyV_is (T := "str") I1 r1 rfl
      dsimp only at h1
      rw [hnil rfl ρ l1] at h1
      exact ⟨"str", id, PySem.F.plainAttrs_str, slot, hty, k1, k2, Calls.callWith_builtin rfl (PySem.evalArgs_none (fin (vs := []) (us := []) (ws := []) I1 r1 .nil S1 p1 trivial h1))⟩
  | cons e es =>
    have h' : nst e = true ∧ es.all nst = true := by simpa using hx
    refine wpAny_Call_method_late (base_id hs) (few_ok hx hl) hline rfl (runE ho I S E h fun u s1 v H1 F1 ms1 w l1 I1 r1 t1 S1 E1 p1 h1 => ?_)
    cases q : rcv (fx ++ l1) m w with
    | false => rw [q] at h1; exact h1.elim
    | true =>
      rw [q] at h1
      obtain ⟨z, rfl⟩ := rc q
      cases (show v = V.str (sx z) from p1)
      obtain ⟨k1, k2⟩ := tyV_is (T := "str") I1 r1 rfl
      refine ⟨"str", id, PySem.F.plainAttrs_str, slot, hty, k1, k2, ?_⟩
      have hA := runA (pos := cpos) ha I1 S1 E1 h1 (Q' := fun us s2 => wpAny (model X.prog X.w) X.A (PySem.call (.builtin id) (u :: us)) (EP X pins σ Q) X.xe s2) fun us s2 vs H2 F2 ms2 ws l2 I2 r2 t2 S2 E2 p2 h2 => fin I2 r1 r2 S2 (p1.stp t2) p2 h2
      rw [star_cons h'.1] at hA ⊢
      exact Calls.callWith_builtin (by show (false || (backTo cpos (starEach es X.env)).any (·.1)) = false; rw [star_any h'.2] <;> rfl) (Calls.evalArgs_plain hA)
/-- a method of a list of data -/
theorem lm_pe {m : Sm} {id : String} {o e : Expr} {apos cpos : Pos} {fa : Env → Loc → Res W} {fe : Env → Loc → Res (List W)}
    (hm0 : lstM m = true) (slot : Slot "list" (smName m) id) (hty : typeOf (.builtin id) = pure (.type "method_descriptor")) (hm : MtD X id (smD m)) (hs : nsup o = true) (hline : (apos.endLine == cpos.line) = true) (hx : nst e = true)
    (ho : PE X o (tE T Wx fx fa)) (ha : PA X [e] (tA T Wx fx fe)) :
    PE X (.Call (.Attribute o (smName m) apos) [e] [] cpos) (tE T Wx fx fun ρ l => (fa ρ l).bind fun x l => match rcv (fx ++ l) m x with
      | true => (fe ρ l).bind fun ws l => smW fx m x ws l
      | false => .bad) := by
  have rc : ∀ {st : Loc} {w : W}, rcv st m w = true → ∃ ds, pk st w = some (.lst ds) := by
    intro st w h
    cases m <;> first | exact absurd hm0 Bool.false_ne_true | exact lst_rcv h
  have sw : ∀ (w : W) (ws : List W) (l : Loc), smW fx m w ws l = ret ((pk (fx ++ l) w).bind fun d => (pkL (fx ++ l) ws).bind fun ds => (smD m d ds).map .d) l := by
    intro w ws l
    cases m <;> first | exact absurd hm0 Bool.false_ne_true | rfl
  refine ⟨fun pins s σ H Q I ⟨F, ms, ρ, l, S, E, h⟩ => ?_⟩
  refine wpAny_Call_method_late (base_id hs) (few_ok (xs := [e]) (by simp [hx]) rfl) hline rfl (runE ho I S E h fun u s1 v H1 F1 ms1 w l1 I1 r1 t1 S1 E1 p1 h1 => ?_)
  cases q : rcv (fx ++ l1) m w with
  | false => rw [q] at h1; exact h1.elim
  | true =>
    rw [q] at h1
    obtain ⟨ds0, q0⟩ := rc q
    obtain ⟨a, vs0, rfl, hp0, hl0⟩ := S1.pk p1 q0
    obtain ⟨k1, k2⟩ := tyV_is (T := "list") I1 r1 (.inl ⟨rfl, vs0, .inl hp0⟩)
    refine ⟨"list", id, PySem.F.plainAttrs_list, slot, hty, k1, k2, ?_⟩
    have hA := runA (pos := cpos) ha I1 S1 E1 h1 (Q' := fun us s2 => wpAny (model X.prog X.w) X.A (PySem.call (.builtin id) (u :: us)) (EP X pins σ Q) X.xe s2) fun us s2 vs H2 F2 ms2 ws l2 I2 r2 t2 S2 E2 p2 h2 => ?_
    · rw [star_cons hx] at hA ⊢
      exact Calls.callWith_builtin rfl (Calls.evalArgs_plain hA)
    · rw [sw] at h2
      obtain ⟨wr, eg, h3⟩ := Fin.ret h2
      cases z1 : pk (fx ++ l2) w with
      | none => rw [z1] at eg; cases eg
      | some d =>
        cases z2 : pkL (fx ++ l2) ws with
        | none => simp [z1, z2] at eg
        | some ds =>
          cases z3 : smD m d ds with
          | none => simp [z1, z2, z3] at eg
          | some d2 =>
            simp [z1, z2, z3] at eg
            subst eg
            exact hm pins s2 σ H2 _ vs u us Q I2 r1 r2 ⟨F2, ms2, fx ++ l2, d, ds, d2, S2, S2.pk (p1.stp t2) z1, SRel.pks S2 p2 z2, z3, h3.kd⟩
theorem get_pe {o : Expr} {e : Expr} {es : List Expr} {apos cpos : Pos} {fa : Env → Loc → Res W} {fe : Env → Loc → Res (List W)} (C : Cxt T k X sc Wx) (hs : nsup o = true) (hline : (apos.endLine == cpos.line) = true) (hx : (e :: es).all nst = true) (hl : Nat.blt (e :: es).length 29 = true)
    (ho : PE X o (tE T Wx fx fa)) (ha : PA X (e :: es) (tA T Wx fx fe)) :
    PE X (.Call (.Attribute o "get" apos) (e :: es) [] cpos) (tE T Wx fx fun ρ l => (fa ρ l).bind fun x l => match rcv (fx ++ l) .get x with
      | true => (fe ρ l).bind fun ws l => smW fx .get x ws l
      | false => .bad) := by
  refine ⟨fun pins s σ H Q I ⟨F, ms, ρ, l, S, E, h⟩ => ?_⟩
  have h' : nst e = true ∧ es.all nst = true := by simpa using hx
  refine wpAny_Call_method_late (base_id hs) (few_ok hx hl) hline rfl (runE ho I S E h fun u s1 v H1 F1 ms1 w l1 I1 r1 t1 S1 E1 p1 h1 => ?_)
  cases w with
  | d x => exact h1.elim
  | r n =>
    obtain ⟨a, ea, rfl⟩ := p1
    cases q : (fx ++ l1)[n]? with
    | none => simp [rcv, q] at h1; exact h1.elim
    | some ob =>
      cases ob with
      | lst _ => simp [rcv, q] at h1; exact h1.elim
      | ins _ _ => simp [rcv, q] at h1; exact h1.elim
      | dead => simp [rcv, q] at h1; exact h1.elim
      | dct ks0 =>
        simp only [rcv, q] at h1
        obtain ⟨_, kvs0, hH0, _⟩ := S1.at_ n a _ ea q
        cases r1
        obtain ⟨k1, k2, _⟩ := isD_at I1 (.inl ⟨_, .inl hH0⟩)
        refine ⟨"dict", _, PySem.F.plainAttrs_dict, PySem.F.slot_dict_get, PySem.F.type_dict_get, k1, k2, ?_⟩
        have hA := runA (pos := cpos) ha I1 S1 E1 h1 (Q' := fun us s2 => wpAny (model X.prog X.w) X.A (PySem.call (.builtin "dict.get") (.ref a :: us)) (EP X pins σ Q) X.xe s2) fun us s2 vs H2 F2 ms2 ws l2 I2 r2 t2 S2 E2 p2 h2 => ?_
        · rw [star_cons h'.1] at hA ⊢
          exact Calls.callWith_builtin (by show (false || (backTo cpos (starEach es X.env)).any (·.1)) = false; rw [star_any h'.2] <;> rfl) (Calls.evalArgs_plain hA)
        · have h3 : Fin T (fun c d H' => Wx c d σ H') fx F2 ms2 H2 (ret (getW (fx ++ l2) (.r n) ws) l2) (kE Q) := h2
          obtain ⟨wr, eg, h4⟩ := Fin.ret h3
          have h5 := Fin.here h4 S2
          unfold getW at eg
          dsimp only at eg
          cases q3 : (fx ++ l2)[n]? with
          | none => rw [q3] at eg; cases eg
          | some ob2 =>
            rw [q3] at eg
            cases ob2 with
            | lst _ => cases eg
            | ins _ _ => cases eg
            | dead => cases eg
            | dct ks =>
              have ea2 := pre_get t2.pre ea
              obtain ⟨_, kvs, hH2, hl2⟩ := S2.at_ n a _ ea2 q3
              have hu : X.A.units + 1 < cLine := by have := C.un; omega
              have key : ∀ {kk : D} {ky : Ky} {y : V}, dKy kk = some ky → Rep F2 y kk → y = kV (keyOf ky) := fun e1 e2 => dKy_rep e2 e1
              dsimp only at eg
              match ws, vs, p2, eg with
              | [.d kk], [y], p2, eg =>
                dsimp only at eg
                cases q4 : dKy kk with
                | none => rw [q4] at eg; cases eg
                | some ky =>
                  rw [q4] at eg
                  cases eg
                  have ey := key q4 p2.1
                  subst ey
                  cases r2 with
                  | cons ry rr =>
                    cases rr
                    refine d_get1 hu I2 (DGet.k hH2) ry fun w' s3 I3 rw' => ⟨_, H2, I3, rw', h5 _ ?_⟩
                    have hv := hl2.val ky
                    cases qg : getK ks ky with
                    | none => rw [qg] at hv; rw [hv]; dsimp only; rw [qg]; rfl
                    | some wz => rw [qg] at hv; obtain ⟨z, hz, hp⟩ := hv; rw [hz]; dsimp only; rw [qg]; exact hp
              | [.d kk, w2], [y, z2], p2, eg =>
                dsimp only at eg
                cases q4 : dKy kk with
                | none => rw [q4] at eg; cases eg
                | some ky =>
                  rw [q4] at eg
                  cases eg
                  have ey := key q4 p2.1
                  subst ey
                  cases r2 with
                  | cons ry rr =>
                    cases rr with
                    | cons rz rr =>
                      cases rr
                      refine d_get2 hu I2 (DGet.k hH2) ry rz fun w' s3 I3 rw' => ⟨_, H2, I3, rw', h5 _ ?_⟩
                      have hv := hl2.val ky
                      cases qg : getK ks ky with
                      | none => rw [qg] at hv; rw [hv]; dsimp only; rw [qg]; exact p2.2.1
                      | some wz => rw [qg] at hv; obtain ⟨z, hz, hp⟩ := hv; rw [hz]; dsimp only; rw [qg]; exact hp
              | [], _, _, eg => cases eg
              | [.r _], _, _, eg => cases eg
              | [.r _, _], _, _, eg => cases eg
              | .d _ :: _ :: _ :: _, _, _, eg => cases eg
              | .r _ :: _ :: _ :: _, _, _, eg => cases eg
              | [.d _], [], p2, _ => exact p2.elim
              | [.d _], _ :: _ :: _, p2, _ => exact p2.2.elim
              | [.d _, _], [], p2, _ => exact p2.elim
              | [.d _, _], [_], p2, _ => exact p2.2.elim
              | [.d _, _], _ :: _ :: _ :: _, p2, _ => exact p2.2.2.elim
theorem app_pe {o : Expr} {e : Expr} {apos cpos : Pos} {fa : Env → Loc → Res W} {fe : Env → Loc → Res (List W)} (hs : nsup o = true) (hline : (apos.endLine == cpos.line) = true) (hx : nst e = true)
    (ho : PE X o (tE T Wx fx fa)) (ha : PA X [e] (tA T Wx fx fe)) :
    PE X (.Call (.Attribute o "append" apos) [e] [] cpos) (tE T Wx fx fun ρ l => (fa ρ l).bind fun x l => match rcv (fx ++ l) .append x with
      | true => (fe ρ l).bind fun ws l => smW fx .append x ws l
      | false => .bad) := by
  refine ⟨fun pins s σ H Q I ⟨F, ms, ρ, l, S, E, h⟩ => ?_⟩
  refine wpAny_Call_method_late (base_id hs) (few_ok (xs := [e]) (by simp [hx]) rfl) hline rfl (runE ho I S E h fun u s1 v H1 F1 ms1 w l1 I1 r1 t1 S1 E1 p1 h1 => ?_)
  cases w with
  | d x => exact h1.elim
  | r n =>
    obtain ⟨a, ea, rfl⟩ := p1
    cases q : (fx ++ l1)[n]? with
    | none => simp [rcv, q] at h1; exact h1.elim
    | some ob =>
      cases ob with
      | dct _ => simp [rcv, q] at h1; exact h1.elim
      | ins _ _ => simp [rcv, q] at h1; exact h1.elim
      | dead => simp [rcv, q] at h1; exact h1.elim
      | lst ws0 =>
        simp only [rcv, q] at h1
        obtain ⟨_, vs0, hH0, _⟩ := S1.at_ n a _ ea q
        obtain ⟨k1, k2⟩ := tyV_is (T := "list") I1 r1 (.inl ⟨rfl, vs0, .inl (.inl hH0)⟩)
        refine ⟨"list", _, PySem.F.plainAttrs_list, PySem.F.slot_list_append, PySem.F.type_list_append, k1, k2, ?_⟩
        have hA := runA (pos := cpos) ha I1 S1 E1 h1 (Q' := fun us s2 => wpAny (model X.prog X.w) X.A (PySem.call (.builtin "list.append") (u :: us)) (EP X pins σ Q) X.xe s2) fun us s2 vs H2 F2 ms2 ws l2 I2 r2 t2 S2 E2 p2 h2 => ?_
        · rw [star_cons hx] at hA ⊢
          exact Calls.callWith_builtin rfl (Calls.evalArgs_plain hA)
        · cases ws with
          | nil => exact h2.elim
          | cons w2 wr =>
            cases wr with
            | cons _ _ => exact h2.elim
            | nil =>
              cases vs with
              | nil => exact p2.elim
              | cons v2 vr =>
                cases vr with
                | cons _ _ => exact p2.2.elim
                | nil =>
                  have h3 : Fin T (fun c d H' => Wx c d σ H') fx F2 ms2 H2 ((ret (appW fx l2 n w2) l2).bind fun l _ => .ok (.d .non) l) (kE Q) := h2
                  cases q2 : appW fx l2 n w2 with
                  | none => rw [q2] at h3; exact h3.elim
                  | some l3 =>
                    rw [q2] at h3
                    have h4 : Fin T (fun c d H' => Wx c d σ H') fx F2 ms2 H2 (.ok (.d .non) l3) (kE Q) := h3
                    unfold appW at q2
                    cases q3 : (fx ++ l2)[n]? with
                    | none => simp [q3] at q2
                    | some ob2 =>
                      cases ob2 with
                      | dct _ => simp [q3] at q2
                      | ins _ _ => simp [q3] at q2
                      | dead => simp [q3] at q2
                      | lst ws2 =>
                        simp only [q3] at q2
                        split at q2
                        · rename_i hz
                          unfold put at q2
                          split at q2
                          · cases q2
                          · rename_i hn
                            cases q2
                            have ea2 := pre_get t2.pre ea
                            obtain ⟨hF2, vs2, hH2, hl2⟩ := S2.at_ n a _ ea2 q3
                            refine mt_append pins s2 σ H2 _ _ u us Q I2 r1 r2 ⟨a, vs2, v2, rfl, rfl, hH2, by rw [hl2.len, line_eq]; exact hz, ?_⟩
                            have e5 : fx ++ l2.set (n - fx.length) (Obj.lst (ws2 ++ [w2])) = (fx ++ l2).set n (Obj.lst (ws2 ++ [w2])) := by
                              rw [List.set_append_right _ _ (by omega)]
                            refine h4 F2 ms2 _ (Stp.write (List.mem_of_getElem? ea2)) ?_ _ rfl
                            rw [e5]
                            exact S2.write ea2 hF2 hH2 ⟨hF2, _, upd_same, hl2.append ⟨p2.1, trivial⟩⟩
                        · cases q2
end
end Vx

set_option maxHeartbeats 4000000
namespace Vx
open PySem PySem.Spec PyProof.Rows L2
variable [tb : Tbs] [sp : Spv]

/-! targets -/
def gMany : List Nat → TGs
  | [] => gNil
  | i :: is => gCons (gName i) (gMany is)
def gOf (K : PySem.W.Frag) : Tg → TG
  | .n i => gName i
  | .t is => gTup K is.length (gMany is)
/-- the names that sc owns may be stored -/
def Owns (X : Cx) (sc : Scope) : Prop := ∀ x : Str, sc.names.lookup x = some .local ∨ sc.names.lookup x = some .cell → L2.Loc X.env.scope x ∧ (X.fn x = true ∨ X.env.scope.names.lookup x = some .local)
section
variable {X : Cx} {sc : Scope}
theorem okN_of {N : List Str} {i : Nat} {x : Str} (h : okN N sc i x = true) : N[i]? = some x ∧ (sc.names.lookup x = some .local ∨ sc.names.lookup x = some .cell) := by
  unfold okN at h
  simp only [Bool.and_eq_true, Bool.or_eq_true, decide_eq_true_eq] at h
  exact h
theorem name_pg {i : Nat} {x : Str} {p : Pos} (nd : X.N.Nodup) (ow : Owns X sc) (h : okN X.N sc i x = true) : PG X (.Name x p) (gName i) := by
  obtain ⟨h1, h2⟩ := okN_of h
  obtain ⟨h3, h4⟩ := ow x h2
  exact pg_name nd h1 h3 h4
theorem names_pg (nd : X.N.Nodup) (ow : Owns X sc) : ∀ (is : List Nat) (es : List Expr), okNs X.N sc is es = true → PGs X es (gMany is) ∧ (assignEach es X.env).length = is.length ∧ (assignEach es X.env).findIdx? (·.1) = none
  | [], [], _ => ⟨pgs_nil, rfl, rfl⟩
  | i :: is, e :: es, h => by
    cases e <;> first | (exact absurd h Bool.false_ne_true) | skip
    rename_i x p
    have h' : okN X.N sc i x = true ∧ okNs X.N sc is es = true := by
      have : (okN X.N sc i x && okNs X.N sc is es) = true := h
      simpa using this
    obtain ⟨r1, r2, r3⟩ := names_pg nd ow is es h'.2
    refine ⟨pgs_cons (name_pg nd ow h'.1) r1 rfl, congrArg Nat.succ r2, ?_⟩
    show ((false, assign (.Name x p) X.env) :: assignEach es X.env).findIdx? (·.1) = none
    rw [List.findIdx?_cons, if_neg Bool.false_ne_true, r3]
    rfl
  | [], _ :: _, h => absurd h Bool.false_ne_true
  | _ :: _, [], h => absurd h Bool.false_ne_true
theorem tg_pg {tg : Tg} {t : Expr} (nd : X.N.Nodup) (calm : X.calm = true) (ow : Owns X sc) (h : okTg X.N sc tg t = true) : PG X t (gOf X.K tg) := by
  cases tg with
  | n i =>
    cases t <;> first | (exact absurd h Bool.false_ne_true) | skip
    exact name_pg nd ow h
  | t is =>
    cases t <;> first | (exact absurd h Bool.false_ne_true) | skip
    obtain ⟨r1, r2, r3⟩ := names_pg nd ow is _ h
    exact pg_tup calm r1 r2 r3
end
theorem EnvR.set {F : Hp} {ms : List Addr} {ρ : Env} {σ : L2.St} {v : V} {w : W} (E : EnvR F ms ρ σ) (p : Rp F ms v w) (i : Nat) : EnvR F ms (ρ.set i (some w)) (σ.set i (some v)) where
  len := by simp [E.len]
  at_ := fun j u e => by
    by_cases hj : j = i
    · subst hj
      have hl : j < ρ.length := by
        have := (List.getElem?_eq_some_iff.mp e).1
        simpa using this
      rw [List.getElem?_set_self hl] at e
      cases e
      exact ⟨v, by rw [List.getElem?_set_self (by rw [← E.len]; exact hl)], p⟩
    · rw [List.getElem?_set_ne (Ne.symm hj)] at e
      rw [List.getElem?_set_ne (Ne.symm hj)]
      exact E.at_ j u e
theorem wipe_set {i : Nat} {x : Option V} : ∀ {vs : List Nat} {σ : L2.St}, i ∈ vs → wipe (σ.set i x) vs = wipe σ vs
  | [], _, h => by cases h
  | v :: vs, σ, h => by
    show (wipe (σ.set i x) vs).set v none = (wipe σ vs).set v none
    by_cases hm : i ∈ vs
    · rw [wipe_set hm]
    · have e : i = v := by rcases List.mem_cons.mp h with e | e; exact e; exact absurd e hm
      subst e
      have key : ∀ (vs : List Nat) (σ : L2.St), i ∉ vs → wipe (σ.set i x) vs = (wipe σ vs).set i x := by
        intro vs
        induction vs with
        | nil => intro σ _; rfl
        | cons u us ih =>
          intro σ hn
          show (wipe (σ.set i x) us).set u none = ((wipe σ us).set u none).set i x
          rw [ih σ fun h => hn (List.mem_cons_of_mem _ h)]
          exact List.set_comm _ _ (fun e => hn (by rw [e]; exact List.mem_cons_self))
      rw [key vs σ hm, List.set_set]
theorem EnvR.wipe {F : Hp} {ms : List Addr} : ∀ {vs : List Nat} {ρ : Env} {σ : L2.St}, EnvR F ms ρ σ → EnvR F ms (wipeE ρ vs) (wipe σ vs)
  | [], _, _, E => E
  | v :: vs, ρ, σ, E => by
    have E1 := EnvR.wipe (vs := vs) E
    refine ⟨?_, fun j u e => ?_⟩
    · show ((wipeE ρ vs).set v none).length = ((L2.wipe σ vs).set v none).length
      simp [E1.len]
    · have e' : ((wipeE ρ vs).set v none)[j]? = some (some u) := e
      by_cases hj : j = v
      · subst hj
        have hl : j < (wipeE ρ vs).length := by
          have := (List.getElem?_eq_some_iff.mp e').1
          simpa using this
        rw [List.getElem?_set_self hl] at e'
        cases e'
      · rw [List.getElem?_set_ne (Ne.symm hj)] at e'
        show ∃ z, ((L2.wipe σ vs).set v none)[j]? = some (some z) ∧ _
        rw [List.getElem?_set_ne (Ne.symm hj)]
        exact E1.at_ j u e'
theorem many_ok {F H : Hp} {ms : List Addr} {Q : L2.St → Hp → Prop} : ∀ {is : List Nat} {ds : List D} {vs : List V} {ρ ρ1 : Env} {σ : L2.St}, EnvR F ms ρ σ → RepL F vs ds → setMany is ds ρ = some ρ1 →
    (∀ σ', EnvR F ms ρ1 σ' → (∀ ws : List Nat, (∀ i ∈ is, i ∈ ws) → wipe σ' ws = wipe σ ws) → Q σ' H) → gMany is vs σ H Q
  | [], [], vs, ρ, ρ1, σ, E, R, e, q => by
    cases (show some ρ = some ρ1 from e)
    unfold RepL at R
    exact ⟨R, q σ E fun _ _ => rfl⟩
  | i :: is, d :: ds, vs, ρ, ρ1, σ, E, R, e, q => by
    unfold RepL at R
    obtain ⟨v, r, rfl, h1, h2⟩ := R
    refine ⟨v, r, rfl, ?_⟩
    exact many_ok (E.set (w := .d d) h1 i) h2 e fun σ' E' hw => q σ' E' fun ws hs => by
      rw [hw ws fun j hj => hs j (List.mem_cons_of_mem _ hj), wipe_set (hs i List.mem_cons_self)]
  | [], _ :: _, _, _, _, _, _, _, e, _ => by cases e
  | _ :: _, [], _, _, _, _, _, _, e, _ => by cases e
theorem asg_ok {F H : Hp} {K : PySem.W.Frag} {ms : List Addr} {st : Loc} {Q : L2.St → Hp → Prop} {tg : Tg} {v : V} {w : W} {ρ ρ1 : Env} {σ : L2.St} (S : SRel F ms st H) (E : EnvR F ms ρ σ) (p : Rp F ms v w) (e : asgT tg w ρ = some ρ1)
    (q : ∀ σ', EnvR F ms ρ1 σ' → (∀ ws : List Nat, (∀ i ∈ tgIs tg, i ∈ ws) → wipe σ' ws = wipe σ ws) → Q σ' H) : gOf K tg v σ H Q := by
  cases tg with
  | n i =>
    cases (show some (ρ.set i (some w)) = some ρ1 from e)
    exact q _ (E.set p i) fun ws hs => wipe_set (hs i List.mem_cons_self)
  | t is =>
    cases w with
    | r n => cases e
    | d x =>
      cases x <;> first | (cases e; done) | skip
      rename_i ds
      have e2 : (if ds.length = is.length then setMany is ds ρ else none) = some ρ1 := e
      split at e2
      · rename_i hl
        obtain ⟨a, vs, rfl, ha, R⟩ := (show Rep F v (.tup ds) from p)
        exact ⟨a, vs, rfl, .inl (S.le _ _ ha), R.len.trans hl, many_ok E R e2 q⟩
      · cases e2

/-! what is walked -/
structure Wk (J : It) (ds : List D) (F : Hp) : Prop where
  go : ∀ (i : Nat) (F1 : Hp) (ms1 : List Addr) (st1 : Loc) (H1 : Hp), (∀ a o, F a = some o → F1 a = some o) → SRel F1 ms1 st1 H1 → i < ds.length →
    J.go i H1 ∧ ∀ x H2, J.yld i H1 x H2 → ∃ F2 d, Stp F1 ms1 H1 F2 ms1 H2 ∧ SRel F2 ms1 st1 H2 ∧ ds[i]? = some d ∧ Rep F2 x d
  stop : ∀ (F1 : Hp) (ms1 : List Addr) (st1 : Loc) (H1 : Hp), (∀ a o, F a = some o → F1 a = some o) → SRel F1 ms1 st1 H1 → J.stop ds.length H1
theorem wk_list {K : PySem.W.Frag} {F : Hp} {a : Addr} {vs : List V} {ds : List D} (ha : F a = some (.lst vs)) (R : RepL F vs ds) : Wk (Itl K a) ds F where
  go := fun i F1 ms1 st1 H1 sub S hi => by
    have q : SqL K H1 a vs := .inl (S.le _ _ (sub _ _ ha))
    have e : ds[i]? = some ds[i] := List.getElem?_eq_getElem hi
    obtain ⟨v, hv, hr⟩ := R.get e
    refine ⟨⟨vs, v, q, hv⟩, fun x H2 ⟨e2, hx⟩ => ?_⟩
    subst e2
    have := hx vs q
    rw [hv] at this; cases this
    exact ⟨F1, _, Stp.refl, S, e, Rep.mono sub _ _ hr⟩
  stop := fun F1 ms1 st1 H1 sub S => ⟨vs, .inl (S.le _ _ (sub _ _ ha)), by rw [R.len]; exact Nat.le_refl _⟩
theorem wk_tup {K : PySem.W.Frag} {F : Hp} {a : Addr} {vs : List V} {ds : List D} (ha : F a = some (.tup vs)) (R : RepL F vs ds) : Wk (Itt K a) ds F where
  go := fun i F1 ms1 st1 H1 sub S hi => by
    have q : SqT K H1 a vs := .inl (S.le _ _ (sub _ _ ha))
    have e : ds[i]? = some ds[i] := List.getElem?_eq_getElem hi
    obtain ⟨v, hv, hr⟩ := R.get e
    refine ⟨⟨vs, v, q, hv⟩, fun x H2 ⟨e2, hx⟩ => ?_⟩
    subst e2
    have := hx vs q
    rw [hv] at this; cases this
    exact ⟨F1, _, Stp.refl, S, e, Rep.mono sub _ _ hr⟩
  stop := fun F1 ms1 st1 H1 sub S => ⟨vs, .inl (S.le _ _ (sub _ _ ha)), by rw [R.len]; exact Nat.le_refl _⟩
theorem wk_str {F : Hp} (z : Tx) : Wk (Its (sx z)) (z.map fun c => .str [c]) F where
  go := fun i F1 ms1 st1 H1 sub S hi => by
    have hi' : i < z.length := by simpa using hi
    refine ⟨by show i < (sx z).cps.size; simpa [sx] using hi', fun x H2 ⟨e2, c, hc, ex⟩ => ?_⟩
    subst e2 ex
    have hc' : z[i]? = some c := by simpa [sx] using hc
    exact ⟨F1, .str [c], Stp.refl, S, by rw [List.getElem?_map, hc']; rfl, rfl⟩
  stop := fun F1 ms1 st1 H1 sub S => by show (sx z).cps.size ≤ _; simp [sx]
theorem wk_rng {F : Hp} (lo : Int) (n : Nat) (ds : List D) (hd : ds = (List.range n).map fun (i : Nat) => D.int (lo + (i : Int))) : Wk (Itr lo n) ds F := by
  subst hd
  refine ⟨fun i F1 ms1 st1 H1 sub S hi => ?_, fun F1 ms1 st1 H1 sub S => ?_⟩
  · have hi' : i < n := by simpa using hi
    refine ⟨hi', fun x H2 ⟨e2, ex⟩ => ?_⟩
    subst e2 ex
    exact ⟨F1, .int (lo + i), Stp.refl, S, by rw [List.getElem?_map, List.getElem?_range hi']; rfl, rfl⟩
  · show n ≤ _; simp
def iOf (T : Tab) (Wx : WX) (fx : Loc) (k : Ik) (fe : Env → Loc → Res (List W)) : TI := fun σ H R =>
  ∃ (F : Hp) (ms : List Addr) (ρ : Env) (l : Loc), SRel F ms (fx ++ l) H ∧ EnvR F ms ρ σ ∧ Fin T (fun c d H' => Wx c d σ H') fx F ms H ((fe ρ l).bind fun ws l => ret (itms k ws) l) (fun ds _ F' _ H' => ∀ J, Wk J ds F' → R J H')
section
variable {T : Tab} {k : Nat} {X : Cx} {sc : Scope} {Wx : WX} {fx : Loc} {tg : Expr}
theorem bind_assoc' {α β γ : Type} (r : Res α) (f : α → Loc → Res β) (g : β → Loc → Res γ) : (r.bind f).bind g = r.bind fun a l => (f a l).bind g := by cases r <;> rfl
theorem one_eq {a : Env → Loc → Res W} {ρ : Env} {l : Loc} {k : Ik} : (((a ρ l).bind fun w l => (Res.ok ([] : List W) l).bind fun ws l => Res.ok (w :: ws) l).bind fun ws l => ret (itms k ws) l) = (a ρ l).bind fun w l => ret (itms k [w]) l := by
  rw [bind_assoc']; rfl
theorem lst_pi {e : Expr} {fa : Env → Loc → Res W} (ha : PE X e (tE T Wx fx fa)) : PI X tg e (iOf T Wx fx .lst fun ρ l => (fa ρ l).bind fun w l => (Res.ok ([] : List W) l).bind fun ws l => Res.ok (w :: ws) l) := by
  refine pi_mono (pi_list ha) fun σ H R ⟨F, ms, ρ, l, S, E, h⟩ => ⟨F, ms, ρ, l, S, E, ?_⟩
  dsimp only at h
  rw [one_eq] at h
  refine (Fin.bind h).mono fun w l1 F1 ms1 H1 t1 S1 z v p => ?_
  obtain ⟨ds, e, h1⟩ := Fin.ret z
  cases w with
  | r n => cases e
  | d x =>
    cases x <;> first | (cases e; done) | skip
    rename_i es
    cases (show some es = some ds from e)
    obtain ⟨a, vs, rfl, ha, R⟩ := (show Rep F1 v (.lst ds) from p)
    exact ⟨a, rfl, ⟨vs, .inl (S1.le _ _ ha)⟩, Fin.here h1 S1 _ (wk_list ha R)⟩
theorem tup_pi {e : Expr} {fa : Env → Loc → Res W} (ha : PE X e (tE T Wx fx fa)) : PI X tg e (iOf T Wx fx .tup fun ρ l => (fa ρ l).bind fun w l => (Res.ok ([] : List W) l).bind fun ws l => Res.ok (w :: ws) l) := by
  refine pi_mono (pi_tup ha) fun σ H R ⟨F, ms, ρ, l, S, E, h⟩ => ⟨F, ms, ρ, l, S, E, ?_⟩
  dsimp only at h
  rw [one_eq] at h
  refine (Fin.bind h).mono fun w l1 F1 ms1 H1 t1 S1 z v p => ?_
  obtain ⟨ds, e, h1⟩ := Fin.ret z
  cases w with
  | r n => cases e
  | d x =>
    cases x <;> first | (cases e; done) | skip
    rename_i es
    cases (show some es = some ds from e)
    obtain ⟨a, vs, rfl, ha, R⟩ := (show Rep F1 v (.tup ds) from p)
    exact ⟨a, rfl, ⟨vs, .inl (S1.le _ _ ha)⟩, Fin.here h1 S1 _ (wk_tup ha R)⟩
theorem str_pi {e : Expr} {fa : Env → Loc → Res W} (ha : PE X e (tE T Wx fx fa)) : PI X tg e (iOf T Wx fx .str fun ρ l => (fa ρ l).bind fun w l => (Res.ok ([] : List W) l).bind fun ws l => Res.ok (w :: ws) l) := by
  refine pi_mono (pi_str ha) fun σ H R ⟨F, ms, ρ, l, S, E, h⟩ => ⟨F, ms, ρ, l, S, E, ?_⟩
  dsimp only at h
  rw [one_eq] at h
  refine (Fin.bind h).mono fun w l1 F1 ms1 H1 t1 S1 z v p => ?_
  obtain ⟨ds, e, h1⟩ := Fin.ret z
  cases w with
  | r n => cases e
  | d x =>
    cases x <;> first | (cases e; done) | skip
    rename_i y
    cases (show some (y.map fun c => D.str [c]) = some ds from e)
    cases (show v = V.str (sx y) from p)
    exact ⟨sx y, rfl, Fin.here h1 S1 _ (wk_str y)⟩
theorem rng1_pi {x : Str} {e : Expr} {p pos : Pos} {fa : Env → Loc → Res W} (C : Cxt T k X sc Wx) (hg : okG sc x = true) (hx : x = "range") (hn : nst e = true) (ha : PE X e (tE T Wx fx fa)) :
    PI X tg (.Call (.Name x p) [e] [] pos) (iOf T Wx fx .rng1 fun ρ l => (fa ρ l).bind fun w l => (Res.ok ([] : List W) l).bind fun ws l => Res.ok (w :: ws) l) := by
  subst hx
  obtain ⟨g1, g2⟩ := gl_of C.sc hg
  have hA : PA X [e] (tCons (tE T Wx fx fa) tNil) := pa_cons ha pa_nil (star_cons hn)
  refine pi_mono (pi_range1 g1 (C.facts.fr _ (by simp)) hA (star_cons hn)) fun σ H R ⟨F, ms, ρ, l, S, E, h⟩ => ⟨F, ms, ρ, l, S, E, ?_⟩
  dsimp only at h
  rw [one_eq] at h
  refine (Fin.bind h).mono fun w l1 F1 ms1 H1 t1 S1 z v p => ?_
  obtain ⟨ds, e, h1⟩ := Fin.ret z
  cases w with
  | r n => cases e
  | d x =>
    cases x <;> first | (cases e; done) | skip
    rename_i n
    cases (show v = V.int n from p)
    have e2 : (if small62 n then some ((List.range n.toNat).map fun (i : Nat) => D.int (i : Int)) else none) = some ds := e
    split at e2
    · rename_i hs
      cases e2
      obtain ⟨q1, q2⟩ := small62_ok hs
      refine ⟨n, rfl, q1, q2, Fin.here h1 S1 _ (wk_rng 0 n.toNat _ ?_)⟩
      congr 1
      funext i
      rw [Int.zero_add]
    · cases e2
theorem rng2_pi {x : Str} {e e2 : Expr} {p pos : Pos} {fa fb : Env → Loc → Res W} (C : Cxt T k X sc Wx) (hg : okG sc x = true) (hx : x = "range") (hn : nst e = true) (hn2 : nst e2 = true) (ha : PE X e (tE T Wx fx fa)) (hb : PE X e2 (tE T Wx fx fb)) :
    PI X tg (.Call (.Name x p) [e, e2] [] pos) (iOf T Wx fx .rng2 fun ρ l => (fa ρ l).bind fun w l => ((fb ρ l).bind fun w l => (Res.ok ([] : List W) l).bind fun ws l => Res.ok (w :: ws) l).bind fun ws l => Res.ok (w :: ws) l) := by
  subst hx
  obtain ⟨g1, g2⟩ := gl_of C.sc hg
  have hA : PA X [e, e2] (tCons (tE T Wx fx fa) (tCons (tE T Wx fx fb) tNil)) := pa_cons ha (pa_cons hb pa_nil (star_cons hn2)) (star_cons hn)
  refine pi_mono (pi_range2 g1 (C.facts.fr _ (by simp)) hA (by rw [star_cons hn, star_cons hn2]; rfl) (by rw [star_cons hn2]; rfl)) fun σ H R ⟨F, ms, ρ, l, S, E, h⟩ => ⟨F, ms, ρ, l, S, E, ?_⟩
  dsimp only at h
  rw [bind_assoc'] at h
  refine (Fin.bind h).mono fun w l1 F1 ms1 H1 t1 S1 z v p => ⟨F1, ms1, ρ, l1, S1, E.stp t1, ?_⟩
  rw [bind_assoc', bind_assoc'] at z
  refine (Fin.bind z).mono fun w2 l2 F2 ms2 H2 t2 S2 z2 v2 p2 => ?_
  obtain ⟨ds, e, h1⟩ := Fin.ret (o := itms .rng2 [w, w2]) z2
  cases w with
  | r n => cases w2 <;> cases e
  | d x =>
    cases w2 with
    | r n => cases x <;> cases e
    | d y =>
      cases x <;> first | (cases e; done) | skip
      cases y <;> first | (cases e; done) | skip
      rename_i a b
      cases (show v = V.int a from p)
      cases (show v2 = V.int b from p2)
      have e3 : (if small62 a && small62 b then some ((List.range (b - a).toNat).map fun (i : Nat) => D.int (a + (i : Int))) else none) = some ds := e
      split at e3
      · rename_i hs
        cases e3
        obtain ⟨k1, k2⟩ := Bool.and_eq_true_iff.mp hs
        obtain ⟨q1, q2⟩ := small62_ok k1
        obtain ⟨q3, q4⟩ := small62_ok k2
        exact ⟨a, b, rfl, ⟨q1, q2, q3, q4⟩, Fin.here h1 S2 _ (wk_rng a _ _ rfl)⟩
      · cases e3

/-! comprehensions -/
theorem Stp.fresh {F H : Hp} {ms : List Addr} {p : Addr} {u : HO} (hp : H p = none) : Stp F ms H F ms (upd H p u) where
  sub := fun _ _ h => h
  pre := List.prefix_refl _
  keep := fun a v h _ _ => by rw [upd_ne (ne_of_none h hp)]; exact h
  new := fun a h n => absurd h n
  newF := fun _ _ h => .inl h
theorem Stp.sideTo {F H F1 H1 : Hp} {ms ms1 : List Addr} {p : Addr} {u : HO} (t : Stp F ms H F1 ms1 H1) (hp : H p = none) : Stp F ms H F1 ms1 (upd H1 p u) where
  sub := t.sub
  pre := t.pre
  keep := fun a v h n i => by rw [upd_ne (ne_of_none h hp)]; exact t.keep a v h n i
  new := t.new
  newF := t.newF
theorem Stp.claimTo {F H F1 H1 : Hp} {ms ms1 : List Addr} {p : Addr} {u : HO} (t : Stp F ms H F1 ms1 H1) (hp : H p = none) (hF : F1 p = none) : Stp F ms H (upd F1 p u) ms1 H1 where
  sub := fun a v h => by
    have h1 := t.sub a v h
    rw [upd_ne (ne_of_none h1 hF)]; exact h1
  pre := t.pre
  keep := t.keep
  new := t.new
  newF := fun a v h => by
    by_cases q : a = p
    · subst q; exact .inr (.inl (.of hp))
    · rw [upd_ne q] at h; exact t.newF a v h
theorem Stp.adoptTo {F H F1 H1 : Hp} {ms ms1 : List Addr} {p : Addr} (t : Stp F ms H F1 ms1 H1) (hp : H p = none) : Stp F ms H F1 (ms1 ++ [p]) H1 where
  sub := t.sub
  pre := t.pre.trans (List.prefix_append _ _)
  keep := t.keep
  new := fun a h n => by
    rcases List.mem_append.mp h with h | h
    · exact t.new a h n
    · simp at h; subst h; exact .of hp
  newF := fun a v h => by
    rcases t.newF a v h with z | z | z
    · exact .inl z
    · exact .inr (.inl z)
    · exact .inr (.inr (List.mem_append_left _ z))
/-- the address stays apart from what a step makes -/
theorem Stp.apart {F H F1 H1 : Hp} {ms ms1 : List Addr} {p : Addr} {u : HO} (t : Stp F ms H F1 ms1 H1) (hH : H p = some u) (hF : F p = none) (hm : p ∉ ms) (hi : isTbl u = false := by rfl) : F1 p = none ∧ p ∉ ms1 ∧ H1 p = some u := by
  have hm1 : p ∉ ms1 := fun h => by
    exact (t.new p h hm).no hH hi
  refine ⟨?_, hm1, t.keep p u hH hm hi⟩
  cases q : F1 p with
  | none => rfl
  | some o =>
    rcases t.newF p o q with z | z | z
    · rw [hF] at z; cases z
    · exact (z.no hH hi).elim
    · exact absurd z hm1
/-- no exception leaves -/
abbrev W0 : WX := fun _ _ _ _ => False
theorem lc_read {T : Tab} {K : PySem.W.Frag} {Wx : WX} {fx : Loc} {m : Bool} {tg : Tg} {k : Ik} {fi : Env → Loc → Res (List W)} {fc : Env → Loc → Res Bool} {fe : Env → Loc → Res W} {vs : List Nat} (hown : ∀ i ∈ tgIs tg, i ∈ vs)
    {σ : L2.St} {H : Hp} {Q : VK} (h : tE T Wx fx (fun ρ l => (fi ρ l).bind fun ws l => (ret (itms k ws) l).bind fun ds l => (noExc (lcGo fc fe tg ds (wipeE ρ vs) l)).bind fun ws l => mkLst m fx ws l) σ H Q) :
    tLc (iOf T Wx fx k fi) (gOf K tg) (tT T W0 fx fc) (tE T W0 fx fe) vs σ H Q := by
  obtain ⟨F, ms, ρ, l, S, E, h⟩ := h
  dsimp only at h
  rw [← bind_assoc'] at h
  refine ⟨F, ms, ρ, l, S, E, (Fin.bind h).mono fun ds l1 F1 ms1 H1 t1 S1 z J wk D hD => ?_⟩
  cases hE : lcGo fc fe tg ds (wipeE ρ vs) l1 with
  | bad => rw [hE] at z; exact z.elim
  | exc c p l' => rw [hE] at z; exact z.elim
  | ok ws lE =>
    rw [hE] at z
    have hk : Fin T (fun c d H' => Wx c d σ H') fx F1 ms1 H1 (mkLst m fx ws lE) (kE Q) := z
    have hz : ws.length ≤ 16777216 := by
      unfold mkLst at hk
      split at hk
      · assumption
      · exact hk.elim
    have E1 := (E.stp t1).wipe (vs := vs)
    have hDm := S1.nm hD
    have hDF := S1.notF hD
    let Wn : Nat → Hp → Prop := fun i H' => ∃ F' ms' l' acc aw ws', Stp F1 ms1 H1 F' ms' H' ∧ SRel F' ms' (fx ++ l') H' ∧ H' D = some (.lst acc) ∧ RpL F' ms' acc aw ∧ lcGo fc fe tg (ds.drop i) (wipeE ρ vs) l' = .ok ws' lE ∧ ws = aw ++ ws' ∧ F' D = none ∧ D ∉ ms'
    refine ⟨fun i n H' => n = ds.length - i ∧ i ≤ ds.length ∧ Wn i H', ⟨ds.length, by simp, Nat.zero_le _, F1, ms1, l1, [], [], ws, Stp.fresh hD, S1.side hDF hDm (tabs_lay S1.tabs hD), upd_same, trivial, hE, rfl, hDF, hDm⟩, ?_⟩
    rintro i n H' ⟨rfl, hi, F', ms', l', acc, aw, ws', t', S', hH', hacc, hgo, hws, hF', hm'⟩
    by_cases hlt : i < ds.length
    · refine .inr ⟨(wk.go i F' ms' (fx ++ l') H' t'.sub S' hlt).1, Wn (i + 1), fun H'' w => ⟨ds.length - (i + 1), by omega, rfl, hlt, w⟩, fun x H2 y => ?_⟩
      obtain ⟨F2, d, t2, S2, hd, hr⟩ := (wk.go i F' ms' (fx ++ l') H' t'.sub S' hlt).2 x H2 y
      obtain ⟨hF2, hm2, hH2⟩ := t2.apart hH' hF' hm'
      have hdrop : ds.drop i = d :: ds.drop (i + 1) := by
        rw [List.drop_eq_getElem_cons hlt]
        have := List.getElem?_eq_getElem hlt
        rw [hd] at this; cases this; rfl
      rw [hdrop] at hgo
      unfold lcGo at hgo
      cases hA : asgT tg (.d d) (wipeE ρ vs) with
      | none => rw [hA] at hgo; cases hgo
      | some ρ1 =>
        rw [hA] at hgo
        have hgo1 : ((fc ρ1 l').bind fun b l => match b with
          | true => (fe ρ1 l).bind fun w l => (lcGo fc fe tg (ds.drop (i + 1)) (wipeE ρ vs) l).bind fun ws l => .ok (w :: ws) l
          | false => lcGo fc fe tg (ds.drop (i + 1)) (wipeE ρ vs) l) = .ok ws' lE := hgo
        refine asg_ok S2 ((E1.stp t').stp t2) (w := .d d) hr hA fun σ' E' hw => ?_
        refine ⟨(hw vs hown).trans ?_, F2, ms', ρ1, l', S2, E', ?_⟩
        · have key : ∀ (vs : List Nat) (σ : L2.St) , wipe (wipe σ vs) vs = wipe σ vs := by
            intro vs σ
            have k2 : ∀ (us vs : List Nat) (σ : L2.St), (∀ u ∈ us, u ∈ vs) → wipe (wipe σ us) vs = wipe σ vs := by
              intro us
              induction us with
              | nil => intro vs σ _; rfl
              | cons u us ih =>
                intro vs σ hs
                show wipe ((wipe σ us).set u none) vs = _
                rw [wipe_set (hs u List.mem_cons_self), ih vs σ fun v hv => hs v (List.mem_cons_of_mem _ hv)]
            exact k2 vs vs σ fun _ h => h
          exact key vs σ
        · cases hC : fc ρ1 l' with
          | bad => rw [hC] at hgo1; cases hgo1
          | exc c p l' => rw [hC] at hgo1; cases hgo1
          | ok b l2 =>
            rw [hC] at hgo1
            intro F3 ms3 H3 t3 S3
            obtain ⟨hF3, hm3, hH3⟩ := t3.apart hH2 hF2 hm2
            cases b with
            | false =>
              show Wn (i + 1) H3
              exact ⟨F3, ms3, l2, acc, aw, ws', (t'.trans t2).trans t3, S3, hH3, (hacc.stp t2).stp t3, hgo1, hws, hF3, hm3⟩
            | true =>
              show tE T W0 fx fe σ' H3 _
              have hgo2 : ((fe ρ1 l2).bind fun w l => (lcGo fc fe tg (ds.drop (i + 1)) (wipeE ρ vs) l).bind fun ws l => .ok (w :: ws) l) = .ok ws' lE := hgo1
              refine ⟨F3, ms3, ρ1, l2, S3, E'.stp t3, ?_⟩
              cases hV : fe ρ1 l2 with
              | bad => rw [hV] at hgo2; cases hgo2
              | exc c p l' => rw [hV] at hgo2; cases hgo2
              | ok w l3 =>
                rw [hV] at hgo2
                intro F4 ms4 H4 t4 S4 v pv
                obtain ⟨hF4, hm4, hH4⟩ := t4.apart hH3 hF3 hm3
                have hgo3 : ((lcGo fc fe tg (ds.drop (i + 1)) (wipeE ρ vs) l3).bind fun ws l => .ok (w :: ws) l) = .ok ws' lE := hgo2
                cases hR : lcGo fc fe tg (ds.drop (i + 1)) (wipeE ρ vs) l3 with
                | bad => rw [hR] at hgo3; cases hgo3
                | exc c p l' => rw [hR] at hgo3; cases hgo3
                | ok ws2 l4 =>
                  rw [hR] at hgo3
                  cases hgo3
                  have hlen : acc.length = aw.length := hacc.len
                  have hwl : aw.length + (w :: ws2).length ≤ 16777216 := by rw [hws, List.length_append] at hz; exact hz
                  refine ⟨acc, hH4, by rw [hlen, line_eq]; simp at hwl; omega, F4, ms4, l3, acc ++ [v], aw ++ [w], ws2, ((t'.trans t2).trans (t3.trans t4)).sideTo hD, S4.side hF4 hm4 (tabs_put S4.tabs hH4 rfl), upd_same, ?_, hR, by rw [hws]; simp, hF4, hm4⟩
                  exact (((hacc.stp t2).stp t3).stp t4).append ⟨pv, trivial⟩
    · have e : i = ds.length := by omega
      subst e
      refine .inl ⟨wk.stop F' ms' (fx ++ l') H' t'.sub S', ?_⟩
      rw [List.drop_length] at hgo
      unfold lcGo at hgo
      cases hgo
      rw [List.append_nil] at hws
      subst hws
      unfold mkLst at hk
      rw [if_pos hz] at hk
      cases m with
      | true =>
        have S2 : SRel F' (ms' ++ [D]) (fx ++ (lE ++ [.lst ws])) H' := by
          rw [← List.append_assoc]
          exact S'.adopt hm' ⟨hF', acc, hH', hacc.mono (fun _ _ h => h) (List.prefix_append _ _)⟩
        refine hk F' (ms' ++ [D]) H' (t'.adoptTo hD) S2 _ ⟨D, ?_, rfl⟩
        have e : fx.length + lE.length = ms'.length := by rw [S'.len, List.length_append]
        rw [e, List.getElem?_append_right (Nat.le_refl _), Nat.sub_self]; rfl
      | false =>
        obtain ⟨w, e, h1⟩ := Fin.ret hk
        cases q : unW ws with
        | none => rw [q] at e; cases e
        | some es =>
          rw [q] at e
          cases (show some (W.d (.lst es)) = some w from e)
          have R := hacc.un q
          refine h1 (upd F' D (.lst acc)) ms' H' (t'.claimTo hD hF') (S'.claim hF' hm' hH') _ ?_
          show Rep _ _ (.lst es)
          unfold Rep
          exact ⟨D, acc, rfl, upd_same, R.mono (fun a o h => by rw [upd_ne (ne_of_none h hF')]; exact h) _ _⟩
end
end Vx

set_option maxHeartbeats 4000000
namespace Vx
open PySem PySem.Spec PyProof.Rows L2
variable [tb : Tbs] [sp : Spv]

noncomputable abbrev cfA (T : Tab) (k : Nat) (ak : Nat → Res W → Loc → Res W) : Cf := ⟨Vx.call T.sub T.dfs k, T.sub, ak⟩
theorem and2 {a b : Bool} (h : (a && b) = true) : a = true ∧ b = true := Bool.and_eq_true_iff.mp h
section
variable {T : Tab} {k : Nat} {ak : Nat → Res W → Loc → Res W}
/-- the context of a comprehension's block -/
theorem Cxt.blk {X : Cx} {sc : Scope} {Wx : WX} (C : Cxt T k X sc Wx) (hh : T.hot = false) (s : Shared) (H : Hp) (scope : Scope) (B : Addr) (cl : List (Str × Addr)) (fp : List Addr) : Cxt T k (X.blk s H scope (compEnvC scope cl B X.env) fp) (relS scope sc) W0 where
  facts := C.facts
  sc := by show relS scope X.env.scope = relS scope sc; rw [C.sc]
  nd := C.nd
  calm := C.calm
  room := C.room
  un := C.un
  tk := fun _ => takes0
  cold := C.cold
  exc := fun h => by rw [hh] at h; cases h
  lam := fun h => ⟨(C.lam h).has, (C.lam h).room⟩
/-- what a call that hands a lambda keeps -/
def AskOk (T : Tab) (k : Nat) (ak : Nat → Res W → Loc → Res W) : Prop := ∀ (g : Nat) (body : Ex) (X : Cx) (sc : Scope) (Wx : WX) (fx : Loc) (x : Str) (p lpos pos : Pos) (ps : Arguments) (lb : Expr) (scope : Scope), Cxt T k X sc Wx → okG sc x = true → T.nm[g]? = some x → LamX.lamSB sc scope = true → noPs ps = true →
  (∀ (Y : Cx) (Wy : WX), Y.N = X.N → Cxt T.plain k Y scope Wy → PE Y lb (tE T.plain Wy fx (evE (cfA T k ak) fx body))) → PE X (.Call (.Name x p) [.Lambda ps lb scope lpos] [] pos) (tE T Wx fx (evE (cfA T k ak) fx (.ask g body)))
theorem owns_blk {X : Cx} {N : List Str} {sc scope : Scope} {own : List (Str × Nat)} (hb : BlkOk N sc scope own) (s : Shared) (H : Hp) (B : Addr) (cl : List (Str × Addr)) (fp : List Addr) : Owns (X.blk s H scope (compEnvC scope cl B X.env) fp) scope := by
  intro x hx
  have hsc : (X.blk s H scope (compEnvC scope cl B X.env) fp).env.scope = relS scope X.env.scope := rfl
  rcases hx with hx | hx
  · have h1 : (relS scope X.env.scope).names.lookup x = some .local := lookup_relS_keep (by decide) hx
    exact ⟨.inl h1, .inr h1⟩
  · have h1 : (relS scope X.env.scope).names.lookup x = some .cell := lookup_relS_keep (by decide) hx
    refine ⟨.inr h1, .inl ?_⟩
    show (scope.names.lookup x == some NameKind.cell) = true
    rw [hx]; rfl
theorem const_rep {F : Hp} {ms : List Addr} {x : D} {c : Const} {v : V} {j : Nat} {pos : Pos} {X : Cx} (h : okC x c = true) : ∃ v, PE X (.Constant c j pos) (tC v) ∧ ∀ (sp : Spv) (F : Hp), @Rep sp F v x := by
  cases x <;> cases c <;> first | (exact absurd h Bool.false_ne_true) | skip
  · exact ⟨_, pe_non, fun _ F => rfl⟩
  · rename_i a b
    have e : a = b := by simpa [okC] using h
    subst e
    exact ⟨_, pe_bl, fun _ F => rfl⟩
  · rename_i a b
    have e : a = b := of_decide_eq_true h
    subst e
    exact ⟨_, pe_int, fun _ F => rfl⟩
  · rename_i a b
    have e : b = sx a := of_decide_eq_true h
    subst e
    exact ⟨_, pe_str, fun _ F => rfl⟩
theorem okNil {T : Tab} {N : List Str} {sc : Scope} {cf : Cf} {fx : Loc} {es : Exs} {xs : List Expr} (h : okEs T N sc es xs = true) (e : xs = []) (ρ : Env) (l : Loc) : evL cf fx es ρ l = .ok [] l := by
  subst e
  cases es with
  | nil => rfl
  | cons _ _ => exact absurd h Bool.false_ne_true
theorem plain_pt {X : Cx} {Wx : WX} {fx : Loc} {e : Expr} {fa : Env → Loc → Res W} (hp : tplain e = true) (ha : PE X e (tE T Wx fx fa)) : PT X e (tT T Wx fx fun ρ l => (fa ρ l).bind fun x l => ret (trW (fx ++ l) x) l) := by
  refine ⟨fun pins s σ H Q I ⟨F, ms, ρ, l, S, E, h⟩ => ?_⟩
  refine isTrue_plain (runE ha I S E h fun u s1 v H1 F1 ms1 w l1 I1 r1 t1 S1 E1 p1 h1 => ?_) (true_id hp _)
  obtain ⟨b, e, h2⟩ := Fin.ret h1
  exact tr_ok I1 r1 S1 p1 e (Fin.here h2 S1)
theorem okT_e {N : List Str} {sc : Scope} {a : Ex} {e : Expr} (h : okT T N sc (.e a) e = true) : (tplain e = true ∨ isC a e = true) ∧ okE T N sc a e = true := by
  obtain ⟨h1, h2⟩ := and2 (show ((tplain e || isC a e) && okE T N sc a e) = true from h)
  exact ⟨by simpa using h1, h2⟩
theorem cmp_of {N : List Str} {sc : Scope} {o : Op2} {a b : Ex} {e : Expr} (h1 : isC (.op o a b) e = true) (h2 : okE T N sc (.op o a b) e = true) :
    ∃ l p r pos, e = .Compare l [p] [r] pos ∧ okCmp o p = true ∧ okE T N sc a l = true ∧ okE T N sc b r = true ∧ nset r = true := by
  cases e <;> first | (exact absurd h1 Bool.false_ne_true) | skip
  rename_i l ps rs pos
  match ps, rs, h1, h2 with
  | [p], [r], h1, h2 =>
    obtain ⟨h123, h4⟩ := and2 (show (okCmp o p && okE T N sc a l && okE T N sc b r && nset r) = true from h2)
    obtain ⟨h12, h3⟩ := and2 h123
    obtain ⟨h1, h2⟩ := and2 h12
    exact ⟨_, _, _, _, rfl, h1, h2, h3, h4⟩
  | [], _, h1, _ => exact absurd h1 Bool.false_ne_true
  | [_], [], h1, _ => exact absurd h1 Bool.false_ne_true
  | [_], _ :: _ :: _, h1, _ => exact absurd h1 Bool.false_ne_true
  | _ :: _ :: _, _, h1, _ => exact absurd h1 Bool.false_ne_true
theorem chain_of {N : List Str} {sc : Scope} {o1 o2 : Op2} {a b c : Ex} {e : Expr} (h2 : okE T N sc (.chain o1 o2 a b c) e = true) :
    ∃ l p q r t pos, e = .Compare l [p, q] [r, t] pos ∧ okCmp o1 p = true ∧ okCmp o2 q = true ∧ nset t = true ∧ okE T N sc a l = true ∧ okE T N sc b r = true ∧ okE T N sc c t = true := by
  cases e <;> first | (exact absurd h2 Bool.false_ne_true) | skip
  rename_i l ps rs pos
  match ps, rs, h2 with
  | [p, q], [r, t], h2 =>
    obtain ⟨h12345, h6⟩ := and2 (show (okCmp o1 p && okCmp o2 q && nset t && okE T N sc a l && okE T N sc b r && okE T N sc c t) = true from h2)
    obtain ⟨h1234, h5⟩ := and2 h12345
    obtain ⟨h123, h4⟩ := and2 h1234
    obtain ⟨h12, h3⟩ := and2 h123
    obtain ⟨h1, h2⟩ := and2 h12
    exact ⟨_, _, _, _, _, _, rfl, h1, h2, h3, h4, h5, h6⟩
  | [], _, h => exact absurd h Bool.false_ne_true
  | [_], _, h => exact absurd h Bool.false_ne_true
  | [_, _], [], h => exact absurd h Bool.false_ne_true
  | [_, _], [_], h => exact absurd h Bool.false_ne_true
  | [_, _], _ :: _ :: _ :: _, h => exact absurd h Bool.false_ne_true
  | _ :: _ :: _ :: _, _, h => exact absurd h Bool.false_ne_true
theorem and_pw {X : Cx} {Wx : WX} {fx : Loc} {a b : Expr} {rest : List Expr} {pos : Pos} {fa fb : Env → Loc → Res Bool} (ha : PT X a (tT T Wx fx fa)) (hb : Unit → PW X (.BoolOp .And (b :: rest) pos) (tT T Wx fx fb)) :
    PW X (.BoolOp .And (a :: b :: rest) pos) (tT T Wx fx fun ρ l => (fa ρ l).bind fun t l => match t with
      | true => fb ρ l
      | false => .ok false l) := by
  have h := pw_and ha (hb ())
  refine ⟨fun wh pins s σ H Q I ⟨F, ms, ρ, l, S, E, q⟩ => h.run wh pins s σ H Q I ⟨F, ms, ρ, l, S, E, (Fin.bind q).mono fun b l1 F1 ms1 H1 t1 S1 z => ?_⟩⟩
  cases b with
  | true => exact ⟨F1, ms1, ρ, l1, S1, E.stp t1, z⟩
  | false => exact Fin.here z S1
theorem or_pw {X : Cx} {Wx : WX} {fx : Loc} {a b : Expr} {rest : List Expr} {pos : Pos} {fa fb : Env → Loc → Res Bool} (ha : PT X a (tT T Wx fx fa)) (hb : Unit → PW X (.BoolOp .Or (b :: rest) pos) (tT T Wx fx fb)) :
    PW X (.BoolOp .Or (a :: b :: rest) pos) (tT T Wx fx fun ρ l => (fa ρ l).bind fun t l => match t with
      | true => .ok true l
      | false => fb ρ l) := by
  have h := pw_or ha (hb ())
  refine ⟨fun wh pins s σ H Q I ⟨F, ms, ρ, l, S, E, q⟩ => h.run wh pins s σ H Q I ⟨F, ms, ρ, l, S, E, (Fin.bind q).mono fun b l1 F1 ms1 H1 t1 S1 z => ?_⟩⟩
  cases b with
  | false => exact ⟨F1, ms1, ρ, l1, S1, E.stp t1, z⟩
  | true => exact Fin.here z S1
/-- of and, or the test is the same whatever the whole is -/
theorem bool_pw {X : Cx} {op : BoolOp} {xs : List Expr} {pos : Pos} {t : TT} (h : PT X (.BoolOp op xs pos) t) : PW X (.BoolOp op xs pos) t := ⟨fun wh pins s σ H Q I q => h.run pins s σ H Q I q⟩
theorem pa_mono {X : Cx} {es : List Expr} {t t' : TA} (h : PA X es t) (m : ∀ σ H Q, t' σ H Q → t σ H Q) : PA X es t' := ⟨fun pos pins s σ H Q I q => h.run pos pins s σ H Q I (m σ H Q q)⟩
theorem pts_mono {X : Cx} {es : List Expr} {t t' : TT} (h : PTs X es t) (m : ∀ σ H Q, t' σ H Q → t σ H Q) : PTs X es t' := ⟨fun pins s σ H Q I q => h.run pins s σ H Q I (m σ H Q q)⟩
theorem okI_r1 {N : List Str} {sc : Scope} {a : Ex} {e : Expr} (h : okI T N sc .rng1 (.cons a .nil) e = true) : ∃ x p y pos, e = .Call (.Name x p) [y] [] pos ∧ okG sc x = true ∧ x = "range" ∧ nst y = true ∧ okE T N sc a y = true := by
  cases e <;> first | (exact absurd h Bool.false_ne_true) | skip
  rename_i fn xs kws pos
  cases fn <;> first | (exact absurd h Bool.false_ne_true) | skip
  rename_i x p
  match xs, kws, h with
  | [y], [], h =>
    obtain ⟨h123, h4⟩ := and2 (show (okG sc x && decide (x = "range") && nst y && okE T N sc a y) = true from h)
    obtain ⟨h12, h3⟩ := and2 h123
    obtain ⟨h1, h2⟩ := and2 h12
    exact ⟨_, _, _, _, rfl, h1, of_decide_eq_true h2, h3, h4⟩
  | [], _, h => exact absurd h Bool.false_ne_true
  | [_], _ :: _, h => exact absurd h Bool.false_ne_true
  | _ :: _ :: _, _, h => exact absurd h Bool.false_ne_true
theorem okI_r2 {N : List Str} {sc : Scope} {a b : Ex} {e : Expr} (h : okI T N sc .rng2 (.cons a (.cons b .nil)) e = true) : ∃ x p y z pos, e = .Call (.Name x p) [y, z] [] pos ∧ okG sc x = true ∧ x = "range" ∧ nst y = true ∧ nst z = true ∧ okE T N sc a y = true ∧ okE T N sc b z = true := by
  cases e <;> first | (exact absurd h Bool.false_ne_true) | skip
  rename_i fn xs kws pos
  cases fn <;> first | (exact absurd h Bool.false_ne_true) | skip
  rename_i x p
  match xs, kws, h with
  | [y, z], [], h =>
    obtain ⟨h12345, h6⟩ := and2 (show (okG sc x && decide (x = "range") && nst y && nst z && okE T N sc a y && okE T N sc b z) = true from h)
    obtain ⟨h1234, h5⟩ := and2 h12345
    obtain ⟨h123, h4⟩ := and2 h1234
    obtain ⟨h12, h3⟩ := and2 h123
    obtain ⟨h1, h2⟩ := and2 h12
    exact ⟨_, _, _, _, _, rfl, h1, of_decide_eq_true h2, h3, h4, h5, h6⟩
  | [], _, h => exact absurd h Bool.false_ne_true
  | [_], _, h => exact absurd h Bool.false_ne_true
  | [_, _], _ :: _, h => exact absurd h Bool.false_ne_true
  | _ :: _ :: _ :: _, _, h => exact absurd h Bool.false_ne_true
/-- isinstance(e, C) of the exception that is handled -/
theorem isx_pe {X : Cx} {sc : Scope} {Wx : WX} {fx : Loc} {c : Nat} {x y : Str} {e : Expr} {fa : Env → Loc → Res W} {p p2 pos : Pos} (C : Cxt T k X sc Wx) (hh : T.hot = true) (hg : okG sc x = true) (hx : x = "isinstance") (hg2 : okG sc y = true) (hy : T.cn[c]? = some y) (hn : nst e = true) (ha : PE X e (tE T Wx fx fa)) :
    PE X (.Call (.Name x p) [e, .Name y p2] [] pos) (tE T Wx fx fun ρ l => (fa ρ l).bind fun x l => ret (isxW T.sub c x) l) := by
  obtain ⟨g1, g2⟩ := gl_of C.sc hg
  obtain ⟨g3, g4⟩ := gl_of C.sc hg2
  obtain ⟨m1, m2, m3, m4, m5⟩ := C.facts.exc c y hy
  subst hx
  have hA : PA X [e, .Name y p2] (tCons (tE T Wx fx fa) (tCons (tC (.ref (T.ca c))) tNil)) := pa_cons ha (pa_cons (pe_glob (v := V.ref (T.ca c)) g3 m1 rfl g4) pa_nil) (star_cons hn)
  have key : CallR X (.builtin "isinstance") (fun xs H Q => ∃ (v : V) (F : Hp) (ms : List Addr) (l : Loc) (w wr : W), xs = [v, .ref (T.ca c)] ∧ SRel F ms (fx ++ l) H ∧ Rp F ms v w ∧ isxW T.sub c w = some wr ∧ Kw F ms (fx ++ l) H Q wr) := by
    intro pins s σ H xs us Q I r ⟨v, F, ms, l, w, wr, ex, S, pv, e, kw⟩
    unfold isxW at e
    split at e
    · rename_i c' ds
      cases q : T.sub c' c with
      | none => rw [q] at e; cases e
      | some b =>
        rw [q] at e
        cases e
        have pv' : Rep F v (.ins c' ds) := pv
        unfold Rep at pv'
        obtain ⟨a, rfl, hp⟩ := pv'
        obtain ⟨oe, z, hm, hz, hf, hc⟩ := C.exc hh a c' ds hp
        subst ex
        cases r with
        | cons rx rr =>
          cases rr with
          | cons rt rr =>
            cases rr
            cases rx
            cases rt
            have hget := (I.pin (a, oe) (List.mem_append.mpr (.inl hm))).1
            obtain ⟨vs, hv⟩ := hf
            obtain ⟨hz1, hz2⟩ := hz
            have J : PySem.W.InstAt s.heap a oe (T.ca c') none := by
              obtain ⟨oc, od, oda, osl⟩ := oe
              cases hz1
              cases hz2
              cases hv
              exact ⟨hget, rfl, rfl, trivial⟩
            have G := C.facts.xc c' z hc
            have ke := C.facts.kit c' c b q
            refine PySem.W.kia_one (PySem.W.handS_kitx_exc G.hg G.hk G.hs G.hd G.ha G.hn G.ht G.hm) I.kIn J ke (fun z => nomatch z) fun tk => ⟨.bl b, H, I.kept (t' := tk) fun _ _ z => z, rfl, ?_⟩
            exact kw F H _ Stp.refl S rfl
    · cases e
  refine pe_mono (pe_callB key g1 (C.facts.fr _ (by simp)) (by decide +kernel) hA (by decide +kernel) (by decide +kernel) (star_cons hn)) fun σ H Q ⟨F, ms, ρ, l, S, E, h⟩ => ⟨F, ms, ρ, l, S, E, (Fin.bind h).mono fun w l1 F1 ms1 H1 t1 S1 z1 v p => ?_⟩
  obtain ⟨wr, e, h1⟩ := Fin.ret z1
  exact ⟨v, F1, ms1, l1, w, wr, rfl, S1, p, e, h1.kw⟩
mutual
theorem sndE : ∀ (ir : Ex) (T : Tab) (hq : T.ask = true → AskOk T k ak) (X : Cx) (sc : Scope) (Wx : WX) (fx : Loc) (e : Expr), Cxt T k X sc Wx → okE T X.N sc ir e = true → PE X e (tE T Wx fx (evE (cfA T k ak) fx ir))
  | .c x, T, hq, X, sc, Wx, fx, e, C, h => by
    cases e <;> first | (exact absurd h Bool.false_ne_true) | skip
    obtain ⟨v, hp, hr⟩ := const_rep (F := fun _ => none) (ms := []) (v := .non) (X := X) (show okC x _ = true from h)
    exact pe_mono hp fun σ H Q ⟨F, ms, ρ, l, S, E, h⟩ => Fin.here h S v (hr sp F)
  | .v i, T, hq, X, sc, Wx, fx, e, C, h => by
    cases e <;> first | (exact absurd h Bool.false_ne_true) | skip
    obtain ⟨h1, h2, h3, h4⟩ := vis_of C.sc (show okV X.N sc i _ = true from h)
    refine pe_mono (pe_var h1 h2 h3 h4) fun σ H Q ⟨F, ms, ρ, l, S, E, h⟩ => ?_
    unfold evE at h
    split at h
    · rename_i w hw
      obtain ⟨v, e1, e2⟩ := E.at_ i w hw
      exact ⟨v, e1, Fin.here h S v e2⟩
    · exact h.elim
  | .g y d, T, hq, X, sc, Wx, fx, e, C, h => by
    cases e <;> first | (exact absurd h Bool.false_ne_true) | skip
    rename_i x p
    obtain ⟨h12, h3⟩ := and2 (show (decide (y = x) && okG sc x && okCon (T.con x) d) = true from h)
    obtain ⟨h1, h2⟩ := and2 h12
    obtain ⟨g1, g2⟩ := gl_of C.sc h2
    have hc : T.con x = some d := by
      cases q : T.con x with
      | none => rw [q] at h3; exact absurd h3 Bool.false_ne_true
      | some z =>
        rw [q] at h3
        cases z <;> cases d <;> first | (exact absurd h3 Bool.false_ne_true) | skip
        · rw [of_decide_eq_true (show decide (_ = _) = true from h3)]
        · rw [of_decide_eq_true (show decide (_ = _) = true from h3)]
    obtain ⟨u, v, m1, m2, m3⟩ := C.facts.con x d hc
    exact pe_mono (pe_glob g1 m1 m2 g2) fun σ H Q ⟨F, ms, ρ, l, S, E, h⟩ => Fin.here h S v (m3 sp F)
  | .op o a b, T, hq, X, sc, Wx, fx, e, C, h => by
    cases e <;> first | (exact absurd h Bool.false_ne_true) | skip
    · rename_i x p y pos
      obtain ⟨h12, h3⟩ := and2 (show (okBin o p && okE T X.N sc a x && okE T X.N sc b y) = true from h)
      obtain ⟨h1, h2⟩ := and2 h12
      exact bin_pe h1 (sndE a T hq X sc Wx fx x C h2) (sndE b T hq X sc Wx fx y C h3)
    · rename_i x ops cs pos
      match ops, cs, h with
      | [p], [y], h =>
        obtain ⟨h123, h4⟩ := and2 (show (okCmp o p && okE T X.N sc a x && okE T X.N sc b y && nset y) = true from h)
        obtain ⟨h12, h3⟩ := and2 h123
        obtain ⟨h1, h2⟩ := and2 h12
        exact cmp_pe C h1 h4 (sndE a T hq X sc Wx fx x C h2) (sndE b T hq X sc Wx fx y C h3)
      | [], _, h => exact absurd h Bool.false_ne_true
      | [_], [], h => exact absurd h Bool.false_ne_true
      | [_], _ :: _ :: _, h => exact absurd h Bool.false_ne_true
      | _ :: _ :: _, [], h => exact absurd h Bool.false_ne_true
      | _ :: _ :: _, _ :: _, h => exact absurd h Bool.false_ne_true
  | .chain o1 o2 a b c, T, hq, X, sc, Wx, fx, e, C, h => by
    obtain ⟨l, p, q, r, t, pos, rfl, h1, h2, h3, h4, h5, h6⟩ := chain_of h
    exact chain_pe C h1 h2 h3 (sndE a T hq X sc Wx fx l C h4) (sndE b T hq X sc Wx fx r C h5) (sndE c T hq X sc Wx fx t C h6)
  | .and a b, T, hq, X, sc, Wx, fx, e, C, h => by
    cases e <;> first | (exact absurd h Bool.false_ne_true) | skip
    rename_i op xs pos
    cases op <;> first | (exact absurd h Bool.false_ne_true) | skip
    match xs, h with
    | [], h => exact absurd h Bool.false_ne_true
    | [_], h => exact absurd h Bool.false_ne_true
    | [x, y], h =>
      obtain ⟨h1, h2⟩ := and2 (show (okE T X.N sc a x && okE T X.N sc b y) = true from h)
      exact and_pe (sndE a T hq X sc Wx fx x C h1) (pe_one (sndE b T hq X sc Wx fx y C h2))
    | x :: y :: z :: t, h =>
      obtain ⟨h1, h2⟩ := and2 (show (okE T X.N sc a x && okE T X.N sc b (.BoolOp .And (y :: z :: t) pos)) = true from h)
      exact and_pe (sndE a T hq X sc Wx fx x C h1) (sndE b T hq X sc Wx fx (.BoolOp .And (y :: z :: t) pos) C h2)
  | .or a b, T, hq, X, sc, Wx, fx, e, C, h => by
    cases e <;> first | (exact absurd h Bool.false_ne_true) | skip
    rename_i op xs pos
    cases op <;> first | (exact absurd h Bool.false_ne_true) | skip
    match xs, h with
    | [], h => exact absurd h Bool.false_ne_true
    | [_], h => exact absurd h Bool.false_ne_true
    | [x, y], h =>
      obtain ⟨h1, h2⟩ := and2 (show (okE T X.N sc a x && okE T X.N sc b y) = true from h)
      exact or_pe (sndE a T hq X sc Wx fx x C h1) (pe_one (sndE b T hq X sc Wx fx y C h2))
    | x :: y :: z :: t, h =>
      obtain ⟨h1, h2⟩ := and2 (show (okE T X.N sc a x && okE T X.N sc b (.BoolOp .Or (y :: z :: t) pos)) = true from h)
      exact or_pe (sndE a T hq X sc Wx fx x C h1) (sndE b T hq X sc Wx fx (.BoolOp .Or (y :: z :: t) pos) C h2)
  | .not a, T, hq, X, sc, Wx, fx, e, C, h => by
    cases e <;> first | (exact absurd h Bool.false_ne_true) | skip
    rename_i op x pos
    cases op <;> first | (exact absurd h Bool.false_ne_true) | skip
    exact not_pe (sndE a T hq X sc Wx fx x C h)
  | .neg a, T, hq, X, sc, Wx, fx, e, C, h => by
    cases e <;> first | (exact absurd h Bool.false_ne_true) | skip
    rename_i op x pos
    cases op <;> first | (exact absurd h Bool.false_ne_true) | skip
    exact neg_pe (sndE a T hq X sc Wx fx x C h)
  | .ite c a b, T, hq, X, sc, Wx, fx, e, C, h => by
    cases e <;> first | (exact absurd h Bool.false_ne_true) | skip
    rename_i x y z pos
    obtain ⟨h12, h3⟩ := and2 (show (okT T X.N sc c x && okE T X.N sc a y && okE T X.N sc b z) = true from h)
    obtain ⟨h1, h2⟩ := and2 h12
    exact ite_pe (sndT c T hq X sc Wx fx x C h1) (sndE a T hq X sc Wx fx y C h2) (sndE b T hq X sc Wx fx z C h3)
  | .tup es, T, hq, X, sc, Wx, fx, e, C, h => by
    cases e <;> first | (exact absurd h Bool.false_ne_true) | skip
    rename_i xs n pos
    obtain ⟨h1, h2⟩ := and2 (show (xs.all nst && okEs T X.N sc es xs) = true from h)
    exact tup_pe (sndL es T hq X sc Wx fx xs C h1 h2)
  | .lst m es, T, hq, X, sc, Wx, fx, e, C, h => by
    cases e <;> first | (exact absurd h Bool.false_ne_true) | skip
    rename_i xs pos
    obtain ⟨h1, h2⟩ := and2 (show (xs.all nst && okEs T X.N sc es xs) = true from h)
    exact lst_pe (sndL es T hq X sc Wx fx xs C h1 h2)
  | .idx a i, T, hq, X, sc, Wx, fx, e, C, h => by
    cases e <;> first | (exact absurd h Bool.false_ne_true) | skip
    rename_i x y pos
    obtain ⟨h12, h3⟩ := and2 (show (nsl y && okE T X.N sc a x && okE T X.N sc i y) = true from h)
    obtain ⟨h1, h2⟩ := and2 h12
    exact idx_pe C h1 (sndE a T hq X sc Wx fx x C h2) (sndE i T hq X sc Wx fx y C h3)
  | .sl a lo hi, T, hq, X, sc, Wx, fx, e, C, h => by
    cases e <;> first | (exact absurd h Bool.false_ne_true) | skip
    rename_i x y pos
    cases y <;> first | (exact absurd h Bool.false_ne_true) | skip
    rename_i p q r p2
    cases r with
    | some _ => exact absurd h Bool.false_ne_true
    | none =>
      obtain ⟨h12, h3⟩ := and2 (show (okE T X.N sc a x && okO T X.N sc lo p && okO T X.N sc hi q) = true from h)
      obtain ⟨h1, h2⟩ := and2 h12
      exact sl_pe (sndE a T hq X sc Wx fx x C h1) (sndO lo T hq X sc Wx fx p C h2) (sndO hi T hq X sc Wx fx q C h3)
  | .call ro f es, T, hq, X, sc, Wx, fx, e, C, h => by
    cases e <;> first | (exact absurd h Bool.false_ne_true) | skip
    rename_i fn xs kws pos
    cases fn <;> first | (exact absurd h Bool.false_ne_true) | skip
    rename_i x p
    cases kws with
    | cons _ _ => exact absurd h Bool.false_ne_true
    | nil =>
      obtain ⟨h123, h4⟩ := and2 (show (!T.hot && okG sc x && decide (T.nm[f]? = some x) && xs.all nst && okEs T X.N sc es xs) = true from h)
      obtain ⟨h12, h3⟩ := and2 h123
      obtain ⟨h01, h2⟩ := and2 h12
      obtain ⟨h0, h1⟩ := and2 h01
      exact call_pe C (by simpa using h0) h1 (of_decide_eq_true h2) h3 (sndL es T hq X sc Wx fx xs C h3 h4) fun e ρ l => okNil h4 e ρ l
  | .bi b a, T, hq, X, sc, Wx, fx, e, C, h => by
    cases e <;> first | (exfalso; cases b <;> exact absurd h Bool.false_ne_true) | skip
    rename_i fn xs kws pos
    cases fn <;> first | (exfalso; cases b <;> exact absurd h Bool.false_ne_true) | skip
    rename_i x p
    cases kws with
    | cons _ _ =>
      exfalso
      cases b <;> (rcases xs with _ | ⟨_, _ | ⟨y, _ | _⟩⟩ <;> first | exact absurd h Bool.false_ne_true | (cases y <;> exact absurd h Bool.false_ne_true))
    | nil =>
      match xs, h with
      | [], h => exfalso; cases b <;> exact absurd h Bool.false_ne_true
      | [e], h =>
        have h' : (okG sc x && decide (x = biName b) && notIsi b && nst e && okE T X.N sc a e) = true := by cases b <;> exact h
        obtain ⟨h1234, h5⟩ := and2 h'
        obtain ⟨h123, h4⟩ := and2 h1234
        obtain ⟨h12, h3⟩ := and2 h123
        obtain ⟨h1, h2⟩ := and2 h12
        exact bi_pe C h1 (of_decide_eq_true h2) (fun t e => by subst e; cases h3) h4 (sndE a T hq X sc Wx fx e C h5)
      | [e, y], h =>
        cases b <;> first | (exfalso; cases y <;> exact absurd h Bool.false_ne_true) | skip
        rename_i t _
        cases y <;> first | (exact absurd h Bool.false_ne_true) | skip
        rename_i y p2
        obtain ⟨h123456, h7⟩ := and2 (show (okG sc x && decide (x = "isinstance") && okG sc y && decide (y = Str.ofString (tyName t)) && notCls t && nst e && okE T X.N sc a e) = true from h)
        obtain ⟨h12345, h6⟩ := and2 h123456
        obtain ⟨h1234, h5⟩ := and2 h12345
        obtain ⟨h123, h4⟩ := and2 h1234
        obtain ⟨h12, h3⟩ := and2 h123
        obtain ⟨h1, h2⟩ := and2 h12
        exact isi_pe C h1 (of_decide_eq_true h2) h3 (of_decide_eq_true h4) (fun c e => by subst e; cases h5) h6 (sndE a T hq X sc Wx fx e C h7)
      | _ :: y :: _ :: _, h => exfalso; cases b <;> first | exact absurd h Bool.false_ne_true | (cases y <;> exact absurd h Bool.false_ne_true)
  | .sm m o es, T, hq, X, sc, Wx, fx, e, C, h => by
    cases e <;> first | (exact absurd h Bool.false_ne_true) | skip
    rename_i fn xs kws q
    cases fn <;> first | (exact absurd h Bool.false_ne_true) | skip
    rename_i x f p
    cases kws with
    | cons _ _ => exact absurd h Bool.false_ne_true
    | nil =>
      obtain ⟨h123456, h7⟩ := and2 (show (decide (f = smName m) && nsup x && (p.endLine == q.line) && xs.all nst && okAr m xs.length && okE T X.N sc o x && okEs T X.N sc es xs) = true from h)
      obtain ⟨h12345, h6⟩ := and2 h123456
      obtain ⟨h1234, h5⟩ := and2 h12345
      obtain ⟨h123, h4⟩ := and2 h1234
      obtain ⟨h12, h3⟩ := and2 h123
      obtain ⟨h1, h2⟩ := and2 h12
      have e1 : f = smName m := of_decide_eq_true h1
      subst e1
      have ho := sndE o T hq X sc Wx fx x C h6
      have ha := sndL es T hq X sc Wx fx xs C h4 h7
      have hn := fun e ρ l => okNil (cf := cfA T k ak) (fx := fx) h7 e ρ l
      cases m with
      | split => exact str_pe (by decide) PySem.F.slot_str_split PySem.F.type_str_split md_split h2 h3 h4 h5 ho ha hn
      | join => exact str_pe (by decide) PySem.F.slot_str_join PySem.F.type_str_join md_join h2 h3 h4 h5 ho ha hn
      | lower => exact str_pe (by decide) PySem.F.slot_str_lower PySem.F.type_str_lower md_lower h2 h3 h4 h5 ho ha hn
      | upper => exact str_pe (by decide) PySem.F.slot_str_upper PySem.F.type_str_upper md_upper h2 h3 h4 h5 ho ha hn
      | index => exact str_pe (by decide) PySem.F.slot_str_index PySem.F.type_str_index md_index h2 h3 h4 h5 ho ha hn
      | find => exact str_pe (by decide) PySem.F.slot_str_find PySem.F.type_str_find md_find h2 h3 h4 h5 ho ha hn
      | partition => exact str_pe (by decide) PySem.F.slot_str_partition PySem.F.type_str_partition md_partition h2 h3 h4 h5 ho ha hn
      | starts => exact str_pe (by decide) PySem.F.slot_str_startswith PySem.F.type_str_startswith md_starts h2 h3 h4 h5 ho ha hn
      | ends => exact str_pe (by decide) PySem.F.slot_str_endswith PySem.F.type_str_endswith md_ends h2 h3 h4 h5 ho ha hn
      | count => exact str_pe (by decide) PySem.F.slot_str_count PySem.F.type_str_count md_count h2 h3 h4 h5 ho ha hn
      | rstrip => exact str_pe (by decide) PySem.F.slot_str_rstrip PySem.F.type_str_rstrip md_rstrip h2 h3 h4 h5 ho ha hn
      | rpart => exact str_pe (by decide) PySem.F.slot_str_rpartition PySem.F.type_str_rpartition md_rpart h2 h3 h4 h5 ho ha hn
      | lindex =>
        match xs, h5, h4, ha with
        | [y], _, h4, ha => exact lm_pe (by decide) PySem.F.slot_list_index PySem.F.type_list_index (md_lindex (by have := C.un; omega)) h2 h3 (by simpa using h4) ho ha
        | [], h5, _, _ => exact absurd h5 Bool.false_ne_true
        | _ :: _ :: _, h5, _, _ => exact absurd (show (_ + 1 + 1 == 1) = true from h5) (by simp)
      | lcount =>
        match xs, h5, h4, ha with
        | [y], _, h4, ha => exact lm_pe (by decide) PySem.F.slot_list_count PySem.F.type_list_count (md_lcount (by have := C.un; omega)) h2 h3 (by simpa using h4) ho ha
        | [], h5, _, _ => exact absurd h5 Bool.false_ne_true
        | _ :: _ :: _, h5, _, _ => exact absurd (show (_ + 1 + 1 == 1) = true from h5) (by simp)
      | get =>
        match xs, h5, h4, ha with
        | y :: ys, h5, h4, ha => exact get_pe C h2 h3 h4 (by
            have h9 : ((y :: ys).length == 1 || (y :: ys).length == 2) = true := h5
            have h10 : (y :: ys).length = 1 ∨ (y :: ys).length = 2 := by simpa using h9
            rcases h10 with h10 | h10 <;> rw [h10] <;> rfl) ho ha
        | [], h5, _, _ => exact absurd h5 Bool.false_ne_true
      | append =>
        match xs, h5, h4, ha with
        | [y], _, h4, ha => exact app_pe h2 h3 (by simpa using h4) ho ha
        | [], h5, _, _ => exact absurd h5 Bool.false_ne_true
        | _ :: _ :: _, h5, _, _ => exact absurd (show (_ + 1 + 1 == 1) = true from h5) (by simp)
  | .lc m tg kk ie cs e own, T, hq, X, sc, Wx, fx, ex, C, h => by
    cases ex <;> first | (exact absurd h Bool.false_ne_true) | skip
    rename_i elt gs scope pos
    match gs, h with
    | [], h => exact absurd h Bool.false_ne_true
    | ⟨_, _, _, n⟩ :: _ :: _, h => (exfalso; simp [okE] at h)
    | [⟨tx, iter, ifs, n⟩], h =>
      have hn : n = 0 := by
        rcases Decidable.em (n = 0) with e | e
        · exact e
        · exfalso
          simp [okE, e] at h
      subst hn
      obtain ⟨h123456, h7⟩ := and2 (show (!T.hot && blkC X.N sc scope own && okTg X.N scope tg tx && (tgIs tg).all (fun i => (own.map (·.2)).contains i) && nset iter && okI T X.N sc kk ie iter && okTs T X.N (relS scope sc) cs ifs && okE T X.N (relS scope sc) e elt) = true from h)
      obtain ⟨h12345, h6⟩ := and2 h123456
      obtain ⟨h1234, h5⟩ := and2 h12345
      obtain ⟨h123, h4⟩ := and2 h1234
      obtain ⟨h12, h3⟩ := and2 h123
      obtain ⟨h01, h2⟩ := and2 h12
      obtain ⟨h0, h1⟩ := and2 h01
      have hh : T.hot = false := by simpa using h0
      have hb : BlkOk X.N sc scope own := blkOk_by h1
      have hb' : BlkOk X.N X.env.scope scope own := by rw [C.sc]; exact hb
      refine pe_mono (pe_lc (own := own) (C.calm hh) C.nd (sndI kk ie T hq X sc Wx fx tx iter C h5) hb'
        (fun s H B cl fp => tg_pg (X := X.blk s H scope (compEnvC scope cl B X.env) fp) (tg := tg) C.nd (C.calm hh) (owns_blk hb s H B cl fp) h2)
        (fun s H B cl fp => sndTs cs T hq (X.blk s H scope (compEnvC scope cl B X.env) fp) (relS scope sc) W0 fx ifs (C.blk hh s H scope B cl fp) h6)
        (fun s H B cl fp => sndE e T hq (X.blk s H scope (compEnvC scope cl B X.env) fp) (relS scope sc) W0 fx elt (C.blk hh s H scope B cl fp) h7) (fold_id h4)) fun σ H Q hq => lc_read (m := m) (fun i hi => ?_) hq
      have := List.all_eq_true.mp h3 i hi
      simpa using this
  | .dnew, T, hq, X, sc, Wx, fx, e, C, h => by
    cases e <;> first | (exact absurd h Bool.false_ne_true) | skip
    rename_i ks vs pos
    match ks, vs, h with
    | [], [], h => exact dnew_pe
    | [], _ :: _, h => exact absurd h Bool.false_ne_true
    | _ :: _, _, h => exact absurd h Bool.false_ne_true
  | .dnewF, T, hq, X, sc, Wx, fx, e, C, h => by
    cases e <;> first | (exact absurd h Bool.false_ne_true) | skip
    rename_i ks vs pos
    match ks, vs, h with
    | [], [], h => exact dnewF_pe
    | [], _ :: _, h => exact absurd h Bool.false_ne_true
    | _ :: _, _, h => exact absurd h Bool.false_ne_true
  | .isx c a, T, hq, X, sc, Wx, fx, e, C, h => by
    cases e <;> first | (exact absurd h Bool.false_ne_true) | skip
    rename_i fn xs kws pos
    cases fn <;> first | (exact absurd h Bool.false_ne_true) | skip
    rename_i x p
    match xs, kws, h with
    | [], _, h => exact absurd h Bool.false_ne_true
    | [_], _, h => exact absurd h Bool.false_ne_true
    | _ :: y :: _ :: _, _, h => cases y <;> exact absurd h Bool.false_ne_true
    | [e, y], _ :: _, h => cases y <;> exact absurd h Bool.false_ne_true
    | [e, y], [], h =>
      cases y <;> first | (exact absurd h Bool.false_ne_true) | skip
      rename_i y p2
      obtain ⟨h123456, h7⟩ := and2 (show (T.hot && okG sc x && decide (x = "isinstance") && okG sc y && decide (T.cn[c]? = some y) && nst e && okE T X.N sc a e) = true from h)
      obtain ⟨h12345, h6⟩ := and2 h123456
      obtain ⟨h1234, h5⟩ := and2 h12345
      obtain ⟨h123, h4⟩ := and2 h1234
      obtain ⟨h12, h3⟩ := and2 h123
      obtain ⟨h1, h2⟩ := and2 h12
      exact isx_pe C h1 h2 (of_decide_eq_true h3) h4 (of_decide_eq_true h5) h6 (sndE a T hq X sc Wx fx e C h7)
  | .act i, T, hq, X, sc, Wx, fx, e, C, h => by
    cases e <;> first | (exact absurd h Bool.false_ne_true) | skip
    rename_i fn xs kws pos
    cases fn <;> first | (exact absurd h Bool.false_ne_true) | skip
    exact ⟨fun pins s σ H Q I ⟨F, ms, ρ, l, S, E, h⟩ => h.elim⟩
  | .ask g body, T, hq, X, sc, Wx, fx, e, C, h => by
    cases e <;> first | (exact absurd h Bool.false_ne_true) | skip
    rename_i fn xs kws pos
    cases fn <;> first | (exact absurd h Bool.false_ne_true) | skip
    rename_i x p
    match xs, kws, h with
    | [], _, h => exact absurd h Bool.false_ne_true
    | y :: _ :: _, _, h => cases y <;> exact absurd h Bool.false_ne_true
    | [y], _ :: _, h => cases y <;> exact absurd h Bool.false_ne_true
    | [y], [], h =>
      cases y <;> first | (exact absurd h Bool.false_ne_true) | skip
      rename_i ps lb scope lpos
      obtain ⟨h12345, h6⟩ := and2 (show (T.ask && okG sc x && decide (T.nm[g]? = some x) && LamX.lamSB sc scope && noPs ps && okE T.plain X.N scope body lb) = true from h)
      obtain ⟨h1234, h5⟩ := and2 h12345
      obtain ⟨h123, h4⟩ := and2 h1234
      obtain ⟨h12, h3⟩ := and2 h123
      obtain ⟨h1, h2⟩ := and2 h12
      exact hq h1 g body X sc Wx fx x p lpos pos ps lb scope C h2 (of_decide_eq_true h3) h4 h5 fun Y Wy hY CY => sndE body T.plain (fun z => Bool.noConfusion (show false = true from z)) Y scope Wy fx lb CY (by rw [hY]; exact h6)
  | .frz a, T, hq, X, sc, Wx, fx, e, C, h => by
    have h' : okE T X.N sc a e = true := h
    refine pe_mono (sndE a T hq X sc Wx fx e C h') fun σ H Q ⟨F, ms, ρ, l, S, E, h⟩ => ⟨F, ms, ρ, l, S, E, (Fin.bind h).mono fun w l1 F1 ms1 H1 t1 S1 z v p => ?_⟩
    cases w with
    | d x => exact Fin.here z S1 v p
    | r n =>
      obtain ⟨b, eb, rfl⟩ := p
      unfold frzW at z
      cases q : (fx ++ l1)[n]? with
      | none => simp only [q] at z; exact z.elim
      | some ob =>
        cases ob with
        | dct _ => simp only [q] at z; exact z.elim
        | ins _ _ => simp only [q] at z; exact z.elim
        | dead => simp only [q] at z; exact z.elim
        | lst ws =>
          simp only [q] at z
          cases q2 : unW ws with
          | none => rw [q2] at z; exact z.elim
          | some ds =>
            rw [q2] at z
            simp only [ret_some, Res.bind_ok] at z
            split at z
            · exact z.elim
            · rename_i hn
              obtain ⟨hF, vs, hH, hl⟩ := S1.at_ n b _ eb q
              have e5 : fx ++ l1.set (n - fx.length) Obj.dead = (fx ++ l1).set n Obj.dead := by
                rw [List.set_append_right _ _ (by omega)]
              refine z (upd F1 b (.lst vs)) ms1 H1 (Stp.frz hF (List.mem_of_getElem? eb)) ?_ _ ?_
              · rw [e5]; exact S1.frz eb hF hH
              · show Rep _ _ (.lst ds)
                unfold Rep
                exact ⟨b, vs, rfl, upd_same, (hl.un q2).mono (fun a o h => by rw [upd_ne (ne_of_none h hF)]; exact h) _ _⟩
theorem sndT : ∀ (ir : Te) (T : Tab) (hq : T.ask = true → AskOk T k ak) (X : Cx) (sc : Scope) (Wx : WX) (fx : Loc) (e : Expr), Cxt T k X sc Wx → okT T X.N sc ir e = true → PT X e (tT T Wx fx (evT (cfA T k ak) fx ir))
  | .e a, T, hq, X, sc, Wx, fx, e, C, h => by
    obtain ⟨h1 | h1, h2⟩ := okT_e h
    · exact plain_pt h1 (sndE a T hq X sc Wx fx e C h2)
    · match a, h1, h2 with
      | .op o a b, h1, h2 =>
        obtain ⟨l, p, r, pos, rfl, h1, h2, h3, h4⟩ := cmp_of h1 h2
        exact cmp_pt C h1 h4 (sndE a T hq X sc Wx fx l C h2) (sndE b T hq X sc Wx fx r C h3)
      | .chain o1 o2 a b c, h1, h2 =>
        obtain ⟨l, p, q, r, t, pos, rfl, h1, h2, h3, h4, h5, h6⟩ := chain_of h2
        exact chain_pt C h1 h2 h3 (sndE a T hq X sc Wx fx l C h4) (sndE b T hq X sc Wx fx r C h5) (sndE c T hq X sc Wx fx t C h6)
  | .and a b, T, hq, X, sc, Wx, fx, e, C, h => by
    cases e <;> first | (exact absurd h Bool.false_ne_true) | skip
    rename_i op xs pos
    cases op <;> first | (exact absurd h Bool.false_ne_true) | skip
    match xs, h with
    | [], h => exact absurd h Bool.false_ne_true
    | [_], h => exact absurd h Bool.false_ne_true
    | [x, y], h =>
      obtain ⟨h1, h2⟩ := and2 (show (okT T X.N sc a x && okT T X.N sc b y) = true from h)
      exact (and_pw (sndT a T hq X sc Wx fx x C h1) (fun wh => pw_and1 (sndT b T hq X sc Wx fx y C h2))).pt
    | x :: y :: z :: t, h =>
      obtain ⟨h1, h2⟩ := and2 (show (okT T X.N sc a x && okT T X.N sc b (.BoolOp .And (y :: z :: t) pos)) = true from h)
      exact (and_pw (sndT a T hq X sc Wx fx x C h1) (fun wh => bool_pw (sndT b T hq X sc Wx fx (.BoolOp .And (y :: z :: t) pos) C h2))).pt
  | .or a b, T, hq, X, sc, Wx, fx, e, C, h => by
    cases e <;> first | (exact absurd h Bool.false_ne_true) | skip
    rename_i op xs pos
    cases op <;> first | (exact absurd h Bool.false_ne_true) | skip
    match xs, h with
    | [], h => exact absurd h Bool.false_ne_true
    | [_], h => exact absurd h Bool.false_ne_true
    | [x, y], h =>
      obtain ⟨h1, h2⟩ := and2 (show (okT T X.N sc a x && okT T X.N sc b y) = true from h)
      exact (or_pw (sndT a T hq X sc Wx fx x C h1) (fun wh => pw_or1 (sndT b T hq X sc Wx fx y C h2))).pt
    | x :: y :: z :: t, h =>
      obtain ⟨h1, h2⟩ := and2 (show (okT T X.N sc a x && okT T X.N sc b (.BoolOp .Or (y :: z :: t) pos)) = true from h)
      exact (or_pw (sndT a T hq X sc Wx fx x C h1) (fun wh => bool_pw (sndT b T hq X sc Wx fx (.BoolOp .Or (y :: z :: t) pos) C h2))).pt
  | .not a, T, hq, X, sc, Wx, fx, e, C, h => by
    cases e <;> first | (exact absurd h Bool.false_ne_true) | skip
    rename_i op x pos
    cases op <;> first | (exact absurd h Bool.false_ne_true) | skip
    refine pt_mono (pt_not (sndT a T hq X sc Wx fx x C h)) fun σ H Q ⟨F, ms, ρ, l, S, E, h⟩ => ⟨F, ms, ρ, l, S, E, (Fin.bind h).mono fun b l1 F1 ms1 H1 t1 S1 z => Fin.here z S1⟩
theorem sndL : ∀ (irs : Exs) (T : Tab) (hq : T.ask = true → AskOk T k ak) (X : Cx) (sc : Scope) (Wx : WX) (fx : Loc) (es : List Expr), Cxt T k X sc Wx → es.all nst = true → okEs T X.N sc irs es = true → PA X es (tA T Wx fx (evL (cfA T k ak) fx irs))
  | .nil, T, hq, X, sc, Wx, fx, es, C, hn, h => by
    cases es with
    | cons _ _ => exact absurd h Bool.false_ne_true
    | nil => exact pa_mono pa_nil fun σ H Q ⟨F, ms, ρ, l, S, E, h⟩ => Fin.here h S [] trivial
  | .cons e r, T, hq, X, sc, Wx, fx, es, C, hn, h => by
    cases es with
    | nil => exact absurd h Bool.false_ne_true
    | cons x xs =>
      obtain ⟨h1, h2⟩ := and2 (show (okE T X.N sc e x && okEs T X.N sc r xs) = true from h)
      have hn' : nst x = true ∧ xs.all nst = true := by simpa using hn
      refine pa_mono (pa_cons (sndE e T hq X sc Wx fx x C h1) (sndL r T hq X sc Wx fx xs C hn'.2 h2) (star_cons hn'.1)) fun σ H Q ⟨F, ms, ρ, l, S, E, h⟩ => ⟨F, ms, ρ, l, S, E, (Fin.bind h).mono fun w l1 F1 ms1 H1 t1 S1 z v p =>
        ⟨F1, ms1, ρ, l1, S1, E.stp t1, (Fin.bind z).mono fun ws l2 F2 ms2 H2 t2 S2 z2 vs ps => Fin.here z2 S2 (v :: vs) ⟨p.stp t2, ps⟩⟩⟩
theorem sndTs : ∀ (irs : Tes) (T : Tab) (hq : T.ask = true → AskOk T k ak) (X : Cx) (sc : Scope) (Wx : WX) (fx : Loc) (es : List Expr), Cxt T k X sc Wx → okTs T X.N sc irs es = true → PTs X es (tT T Wx fx (evC (cfA T k ak) fx irs))
  | .nil, T, hq, X, sc, Wx, fx, es, C, h => by
    cases es with
    | cons _ _ => exact absurd h Bool.false_ne_true
    | nil => exact pts_mono pts_nil fun σ H Q ⟨F, ms, ρ, l, S, E, h⟩ => Fin.here h S
  | .cons e .nil, T, hq, X, sc, Wx, fx, es, C, h => by
    match es, h with
    | [], h => exact absurd h Bool.false_ne_true
    | [x], h =>
      refine pts_mono (pts_one (sndT e T hq X sc Wx fx x C h)) fun σ H Q ⟨F, ms, ρ, l, S, E, h⟩ => ⟨F, ms, ρ, l, S, E, (Fin.bind h).mono fun b l1 F1 ms1 H1 t1 S1 z => ?_⟩
      cases b with
      | true => exact Fin.here z S1
      | false => exact Fin.here z S1
    | _ :: _ :: _, h => exact absurd h Bool.false_ne_true
  | .cons e (.cons _ _), T, hq, X, sc, Wx, fx, es, C, h => by
    match es, h with
    | [], h => exact absurd h Bool.false_ne_true
    | [x], h => exact absurd h Bool.false_ne_true
    | _ :: _ :: _, h => exact absurd h Bool.false_ne_true
theorem sndO : ∀ (ir : Eo) (T : Tab) (hq : T.ask = true → AskOk T k ak) (X : Cx) (sc : Scope) (Wx : WX) (fx : Loc) (e : Option Expr), Cxt T k X sc Wx → okO T X.N sc ir e = true → PO X e (tO T Wx fx (evO (cfA T k ak) fx ir))
  | .no, T, hq, X, sc, Wx, fx, e, C, h => by
    cases e with
    | some _ => exact absurd h Bool.false_ne_true
    | none => exact po_no
  | .so a, T, hq, X, sc, Wx, fx, e, C, h => by
    cases e with
    | none => exact absurd h Bool.false_ne_true
    | some x => exact po_so (sndE a T hq X sc Wx fx x C h)
theorem sndI : ∀ (kk : Ik) (ie : Exs) (T : Tab) (hq : T.ask = true → AskOk T k ak) (X : Cx) (sc : Scope) (Wx : WX) (fx : Loc) (tx e : Expr), Cxt T k X sc Wx → okI T X.N sc kk ie e = true → PI X tx e (iOf T Wx fx kk (evL (cfA T k ak) fx ie))
  | kk, .nil, T, hq, X, sc, Wx, fx, tx, e, C, h => by cases kk <;> exact absurd h Bool.false_ne_true
  | kk, .cons a .nil, T, hq, X, sc, Wx, fx, tx, e, C, h => by
    cases kk with
    | lst => exact lst_pi (sndE a T hq X sc Wx fx e C h)
    | tup => exact tup_pi (sndE a T hq X sc Wx fx e C h)
    | str => exact str_pi (sndE a T hq X sc Wx fx e C h)
    | rng1 =>
      obtain ⟨x, p, y, pos, rfl, h1, h2, h3, h4⟩ := okI_r1 h
      exact rng1_pi C h1 h2 h3 (sndE a T hq X sc Wx fx y C h4)
    | rng2 => exact absurd h Bool.false_ne_true
    | enum => exact absurd h Bool.false_ne_true
    | zip => exact absurd h Bool.false_ne_true
    | items => exact absurd h Bool.false_ne_true
    | keys => exact absurd h Bool.false_ne_true
  | kk, .cons a (.cons b r), T, hq, X, sc, Wx, fx, tx, e, C, h => by
    cases kk <;> first | (exact absurd h Bool.false_ne_true) | skip
    cases r with
    | cons _ _ => exact absurd h Bool.false_ne_true
    | nil =>
      obtain ⟨x, p, y, z, pos, rfl, h1, h2, h3, h4, h5, h6⟩ := okI_r2 h
      exact rng2_pi C h1 h2 h3 h4 (sndE a T hq X sc Wx fx y C h5) (sndE b T hq X sc Wx fx z C h6)
end
end
end Vx

set_option maxHeartbeats 4000000
/-! ### soundness: statements -/
namespace Vx
open PySem PySem.Spec PyProof.Rows L2
variable [tb : Tbs] [sp : Spv]

/-- what follows a statement's run -/
def FinO (T : Tab) (Wx : WX) (fx : Loc) (F : Hp) (ms : List Addr) (H : Hp) (o : Out) (D : Ends) : Prop :=
  match o with
  | .nx ρ l => ∀ (F' : Hp) (ms' : List Addr) (H' : Hp) (σ : L2.St), Stp F ms H F' ms' H' → SRel F' ms' (fx ++ l) H' → EnvR F' ms' ρ σ → D.nx σ H'
  | .bk ρ l => ∀ (F' : Hp) (ms' : List Addr) (H' : Hp) (σ : L2.St), Stp F ms H F' ms' H' → SRel F' ms' (fx ++ l) H' → EnvR F' ms' ρ σ → D.bk σ H'
  | .ct ρ l => ∀ (F' : Hp) (ms' : List Addr) (H' : Hp) (σ : L2.St), Stp F ms H F' ms' H' → SRel F' ms' (fx ++ l) H' → EnvR F' ms' ρ σ → D.ct σ H'
  | .rt w l => ∀ (F' : Hp) (ms' : List Addr) (H' : Hp) (v : V), Stp F ms H F' ms' H' → SRel F' ms' (fx ++ l) H' → Rp F' ms' v w → D.rt v H'
  | .exc c p ρ l => p = .non → ∀ (F' : Hp) (ms' : List Addr) (H' : Hp) (σ : L2.St), Stp F ms H F' ms' H' → SRel F' ms' (fx ++ l) H' → EnvR F' ms' ρ σ → Wx (.ref (T.ca c)) none σ H'
  | .bad => False
section
variable {α : Type} {T : Tab} {Wx : WX} {fx : Loc} {F F1 : Hp} {ms ms1 : List Addr} {H H1 : Hp} {D : Ends}
theorem FinO.shift {o : Out} (t : Stp F ms H F1 ms1 H1) (h : FinO T Wx fx F ms H o D) : FinO T Wx fx F1 ms1 H1 o D := by
  cases o with
  | nx ρ l => exact fun F' ms' H' σ t' S E => h F' ms' H' σ (t.trans t') S E
  | bk ρ l => exact fun F' ms' H' σ t' S E => h F' ms' H' σ (t.trans t') S E
  | ct ρ l => exact fun F' ms' H' σ t' S E => h F' ms' H' σ (t.trans t') S E
  | rt w l => exact fun F' ms' H' v t' S E => h F' ms' H' v (t.trans t') S E
  | exc c p ρ l => exact fun e F' ms' H' σ t' S E => h e F' ms' H' σ (t.trans t') S E
  | bad => exact h
theorem FinO.out {r : Res α} {ρ : Env} {σ : L2.St} {f : α → Loc → Out} (E : EnvR F ms ρ σ) (h : FinO T Wx fx F ms H (r.out ρ f) D) :
    Fin T (fun c d H' => Wx c d σ H') fx F ms H r (fun a l F' ms' H' => FinO T Wx fx F' ms' H' (f a l) D) := by
  cases r with
  | ok a l => exact fun F' ms' H' t S => FinO.shift (o := f a l) t h
  | exc c p l => exact fun e F' ms' H' t S => h e F' ms' H' σ t S (E.stp t)
  | bad => exact h
end
def sOf (T : Tab) (Wx : WX) (fx : Loc) (f : Env → Loc → Out) : TS := fun D σ H =>
  ∃ (F : Hp) (ms : List Addr) (ρ : Env) (l : Loc), SRel F ms (fx ++ l) H ∧ EnvR F ms ρ σ ∧ FinO T Wx fx F ms H (f ρ l) D

/-- what statements need besides -/
structure CxS (X : Cx) : Prop where
  stk : X.stack = X.env :: X.outer
  frm : X.env.frame = some X.env.locals
  pass : PassesOwn (model X.prog X.w) X.A X.env X.xe
  own : X.fn = fun _ => true
  kind : X.env.scope.kind = .function

theorem sw_no {v : Expr} {t : Option Expr} {l : Nat} {env : PySem.Env} (h : noLc v = true) : swapsWith v t l env = pure false := by
  cases v <;> first | (exact absurd h Bool.false_ne_true) | rfl
theorem sws_no {v t : Expr} {l : Nat} {env : PySem.Env} (h : noLc v = true) : swapsWithSole [t] v l env = pure false := sw_no h
theorem sws_cell {sc : Scope} {v t : Expr} {l : Nat} {env : PySem.Env} (hs : env.scope = sc) (h : noSw sc t v = true) : swapsWithSole [t] v l env = pure false := by
  rcases Bool.or_eq_true_iff.mp h with h | h
  · exact sws_no h
  · cases t <;> first | (exact absurd h Bool.false_ne_true) | skip
    rename_i y p h0
    have e : env.kindOf y = some .cell := by
      show env.scope.names.lookup y = _
      rw [hs]
      exact of_decide_eq_true h
    have e2 : (env.kindOf y == some NameKind.local) = false := by rw [e]; rfl
    cases v <;> first | rfl | skip
    all_goals
      show (pure (_ && _ && _ && _) : Sem Bool) = pure false
      rw [e2, Bool.and_false, Bool.false_and, Bool.false_and]
theorem par_no {v t : Expr} {env : PySem.Env} (h : parOk t v = true) : swappedStores [t] v env = pure none := by
  cases t <;> first | (exact absurd h Bool.false_ne_true) | skip
  · rfl
  · cases v <;> first | (exact absurd h Bool.false_ne_true) | rfl
theorem each_one {t v : Expr} {env : PySem.Env} (h : parOk t v = true) : (assignEach [t] env).map (·.2) = [assign t env] := by
  cases t <;> first | (exact absurd h Bool.false_ne_true) | rfl
theorem ix_asg {o i : Expr} {pos : Pos} {env : PySem.Env} (h : nsl i = true) (v : Value) : assign (.Subscript o i pos) env v = (do
      let ov ← holding [v] (eval o env)
      let iv ← holding [v, ov] (eval i env)
      standAt pos
      holding [v, ov, iv] (setItem ov iv v)
      release [v, ov, iv] []) := by
  cases i <;> first | (exact absurd h Bool.false_ne_true) | rfl
theorem ps_mono {X : Cx} {e : Stmt} {t t' : TS} (h : PS X e t) (m : ∀ D σ H, t' D σ H → t D σ H) : PS X e t' := ⟨fun pins s σ H D I q => h.run pins s σ H D I (m D σ H q)⟩
theorem pss_mono {X : Cx} {e : List Stmt} {t t' : TS} (h : PSs X e t) (m : ∀ D σ H, t' D σ H → t D σ H) : PSs X e t' := ⟨fun pins s σ H D I q => h.run pins s σ H D I (m D σ H q)⟩
section
variable {T : Tab} {k : Nat}
theorem owns_of {X : Cx} {sc : Scope} (C : CxS X) (hs : X.env.scope = sc) : Owns X sc := by
  intro x hx
  refine ⟨?_, .inl (by rw [C.own])⟩
  rw [hs]
  exact hx
/-- name = value -/
theorem asg_ps {X : Cx} {Wx : WX} {fx : Loc} {cf : Cf} {tg : Tg} {e : Ex} {t v : Expr} {pos : Pos} (hv : PE X v (tE T Wx fx (evE cf fx e))) (hg : PG X t (gOf X.K tg)) (h1 : swapsWithSole [t] v pos.line X.env = pure false) (h2 : parOk t v = true) :
    PS X (.Assign [t] v pos) (sOf T Wx fx (evS cf fx (.asg tg e))) := by
  refine ps_mono (ps_asg hv hg h1 (par_no h2) (each_one h2)) fun D σ H ⟨F, ms, ρ, l, S, E, h⟩ => ⟨F, ms, ρ, l, S, E, (FinO.out E h).mono fun w l1 F1 ms1 H1 t1 S1 z v p => ?_⟩
  split at z
  · rename_i ρ1 e1
    exact asg_ok S1 (E.stp t1) p e1 fun σ' E' _ => z F1 ms1 H1 σ' Stp.refl S1 E'
  · exact z.elim
theorem ret_ps {X : Cx} {Wx : WX} {fx : Loc} {cf : Cf} {e : Ex} {v : Expr} {pos : Pos} (hv : PE X v (tE T Wx fx (evE cf fx e))) : PS X (.Return (some v) pos) (sOf T Wx fx (evS cf fx (.ret e))) :=
  ps_mono (ps_ret hv) fun D σ H ⟨F, ms, ρ, l, S, E, h⟩ => ⟨F, ms, ρ, l, S, E, (FinO.out E h).mono fun w l1 F1 ms1 H1 t1 S1 z v p => z F1 ms1 H1 v Stp.refl S1 p⟩
theorem pass_ps {X : Cx} {Wx : WX} {fx : Loc} {cf : Cf} {pos : Pos} : PS X (.Pass pos) (sOf T Wx fx (evS cf fx .pass)) :=
  ps_mono ps_pass fun D σ H ⟨F, ms, ρ, l, S, E, h⟩ => h F ms H σ Stp.refl S E
theorem nil_ps {X : Cx} {Wx : WX} {fx : Loc} {cf : Cf} : PSs X [] (sOf T Wx fx (evSs cf fx .nil)) :=
  pss_mono pss_nil fun D σ H ⟨F, ms, ρ, l, S, E, h⟩ => h F ms H σ Stp.refl S E
theorem cons_ps {X : Cx} {Wx : WX} {fx : Loc} {cf : Cf} {s : St} {r : Sts} {st : Stmt} {rest : List Stmt} (h1 : PS X st (sOf T Wx fx (evS cf fx s))) (h2 : PSs X rest (sOf T Wx fx (evSs cf fx r))) :
    PSs X (st :: rest) (sOf T Wx fx (evSs cf fx (.cons s r))) := by
  refine pss_mono (pss_cons h1 h2) fun D σ H ⟨F, ms, ρ, l, S, E, h⟩ => ⟨F, ms, ρ, l, S, E, ?_⟩
  have h' : FinO T Wx fx F ms H ((evS cf fx s ρ l).thn fun ρ l => evSs cf fx r ρ l) D := h
  cases q : evS cf fx s ρ l with
  | nx ρ1 l1 =>
    rw [q] at h'
    exact fun F' ms' H' σ' t S' E' => ⟨F', ms', ρ1, l1, S', E', FinO.shift (o := evSs cf fx r ρ1 l1) t h'⟩
  | bk ρ1 l1 => rw [q] at h'; exact h'
  | ct ρ1 l1 => rw [q] at h'; exact h'
  | rt w l1 => rw [q] at h'; exact h'
  | exc c p ρ1 l1 => rw [q] at h'; exact h'
  | bad => rw [q] at h'; exact h'
end
end Vx

set_option maxHeartbeats 4000000
namespace Vx
open PySem PySem.Spec PyProof.Rows L2
variable [tb : Tbs] [sp : Spv]
section
variable {T : Tab} {k : Nat} {ak : Nat → Res W → Loc → Res W}
/-- for: what the loop is to keep -/
theorem for_ps {X : Cx} {sc : Scope} {Wx : WX} {fx : Loc} {cf : Cf} {tg : Tg} {kk : Ik} {ie : Exs} {body : Sts} {t iter : Expr} {b : List Stmt} {pos : Pos} (calm : X.calm = true) (C : CxS X)
    (hi : PI X t iter (iOf T Wx fx kk (evL cf fx ie))) (hg : PG X t (gOf X.K tg)) (hb : PSs X b (sOf T Wx fx (evSs cf fx body))) (hn : nset iter = true) :
    PS X (.For t iter b [] pos) (sOf T Wx fx (evS cf fx (.for tg kk ie body))) := by
  refine ps_mono (ps_for C.pass calm hi hg hb (fold_id hn)) fun D σ H ⟨F, ms, ρ, l, S, E, h⟩ => ⟨F, ms, ρ, l, S, E, ?_⟩
  have h1 : Fin T (fun c d H' => Wx c d σ H') fx F ms H ((evL cf fx ie ρ l).bind fun ws l => ret (itms kk ws) l) (fun ds l F' ms' H' => FinO T Wx fx F' ms' H' (forGo (evSs cf fx body) tg ds ρ l) D) := by
    have h0 : FinO T Wx fx F ms H ((evL cf fx ie ρ l).out ρ fun ws l => match itms kk ws with
      | some ds => forGo (evSs cf fx body) tg ds ρ l
      | none => .bad) D := h
    cases q : evL cf fx ie ρ l with
    | bad => rw [q] at h0; exact h0.elim
    | exc c p l => rw [q] at h0; exact fun e F' ms' H' t S => h0 e F' ms' H' σ t S (E.stp t)
    | ok ws l1 =>
      rw [q] at h0
      simp only [Res.out_ok] at h0
      show Fin T _ fx F ms H (ret (itms kk ws) l1) _
      cases q2 : itms kk ws with
      | none => rw [q2] at h0; exact h0.elim
      | some ds =>
        rw [q2] at h0
        exact fun F' ms' H' t' S' => FinO.shift (o := forGo (evSs cf fx body) tg ds ρ l1) t' h0
  refine h1.mono fun ds l1 F1 ms1 H1 t1 S1 z J wk => ?_
  let Nx : Nat → L2.St → Hp → Prop := fun i σ' H' => ∃ F' ms' ρ' l', Stp F1 ms1 H1 F' ms' H' ∧ SRel F' ms' (fx ++ l') H' ∧ EnvR F' ms' ρ' σ' ∧ FinO T Wx fx F' ms' H' (forGo (evSs cf fx body) tg (ds.drop i) ρ' l') D
  refine ⟨fun i n σ' H' => n = ds.length - i ∧ i ≤ ds.length ∧ Nx i σ' H', ⟨ds.length, by simp, Nat.zero_le _, F1, ms1, ρ, l1, Stp.refl, S1, E.stp t1, z⟩, ?_⟩
  rintro i n σ' H' ⟨rfl, hi, F', ms', ρ', l', t', S', E', h'⟩
  by_cases hlt : i < ds.length
  · refine .inr ⟨(wk.go i F' ms' (fx ++ l') H' t'.sub S' hlt).1, Nx (i + 1), fun σ2 H2 w => ⟨ds.length - (i + 1), by omega, rfl, hlt, w⟩, fun x H2 y => ?_⟩
    obtain ⟨F2, d, t2, S2, hd, hr⟩ := (wk.go i F' ms' (fx ++ l') H' t'.sub S' hlt).2 x H2 y
    have hdrop : ds.drop i = d :: ds.drop (i + 1) := by
      rw [List.drop_eq_getElem_cons hlt]
      have := List.getElem?_eq_getElem hlt
      rw [hd] at this; cases this; rfl
    rw [hdrop] at h'
    unfold forGo at h'
    cases hA : asgT tg (.d d) ρ' with
    | none => rw [hA] at h'; exact h'.elim
    | some ρ1 =>
      rw [hA] at h'
      refine asg_ok S2 (E'.stp t2) (w := .d d) hr hA fun σ2 E2 _ => ?_
      refine ⟨F2, ms', ρ1, l', S2, E2, ?_⟩
      dsimp only at h'
      cases q : evSs cf fx body ρ1 l' with
      | nx ρ2 l2 =>
        rw [q] at h'
        exact fun F3 ms3 H3 σ3 t3 S3 E3 => ⟨F3, ms3, ρ2, l2, (t'.trans t2).trans t3, S3, E3, FinO.shift (o := forGo (evSs cf fx body) tg (ds.drop (i + 1)) ρ2 l2) (t2.trans t3) h'⟩
      | ct ρ2 l2 =>
        rw [q] at h'
        exact fun F3 ms3 H3 σ3 t3 S3 E3 => ⟨F3, ms3, ρ2, l2, (t'.trans t2).trans t3, S3, E3, FinO.shift (o := forGo (evSs cf fx body) tg (ds.drop (i + 1)) ρ2 l2) (t2.trans t3) h'⟩
      | bk ρ2 l2 =>
        rw [q] at h'
        exact fun F3 ms3 H3 σ3 t3 S3 E3 => h' F3 ms3 H3 σ3 (t2.trans t3) S3 E3
      | rt w l2 =>
        rw [q] at h'
        exact fun F3 ms3 H3 v t3 S3 p => h' F3 ms3 H3 v (t2.trans t3) S3 p
      | exc c p ρ2 l2 =>
        rw [q] at h'
        exact fun e F3 ms3 H3 σ3 t3 S3 E3 => h' e F3 ms3 H3 σ3 (t2.trans t3) S3 E3
      | bad => rw [q] at h'; exact h'.elim
  · have e : i = ds.length := by omega
    subst e
    refine .inl ⟨wk.stop F' ms' (fx ++ l') H' t'.sub S', ?_⟩
    rw [List.drop_length] at h'
    exact h' F' ms' H' σ' Stp.refl S' E'
theorem whl_ps {X : Cx} {Wx : WX} {fx : Loc} {cf : Cf} {n : Nat} {c : Te} {body : Sts} {t : Expr} {b : List Stmt} {pos : Pos} (C : CxS X)
    (ht : PT X t (tT T Wx fx (evT cf fx c))) (hb : PSs X b (sOf T Wx fx (evSs cf fx body))) : PS X (.While t b [] pos) (sOf T Wx fx (evS cf fx (.whl n c body))) := by
  refine ps_mono (ps_while C.pass ht hb) fun D σ H ⟨F, ms, ρ, l, S, E, h⟩ => ?_
  let Wn : Nat → L2.St → Hp → Prop := fun m σ H => ∃ F ms ρ l, SRel F ms (fx ++ l) H ∧ EnvR F ms ρ σ ∧ FinO T Wx fx F ms H (whGo (evT cf fx c) (evSs cf fx body) m ρ l) D
  refine ⟨Wn, ⟨n, F, ms, ρ, l, S, E, h⟩, ?_⟩
  rintro m σ1 H1 ⟨F1, ms1, ρ1, l1, S1, E1, h1⟩
  cases m with
  | zero => exact h1.elim
  | succ m =>
    refine ⟨F1, ms1, ρ1, l1, S1, E1, (FinO.out E1 h1).mono fun b l2 F2 ms2 H2 t2 S2 z => ?_⟩
    cases b with
    | false =>
      rw [if_neg Bool.false_ne_true]
      exact z F2 ms2 H2 σ1 Stp.refl S2 (E1.stp t2)
    | true =>
      rw [if_pos rfl]
      refine ⟨Wn m, fun σ' H' w => ⟨m, Nat.lt_succ_self _, w⟩, F2, ms2, ρ1, l2, S2, E1.stp t2, ?_⟩
      dsimp only at z
      cases q : evSs cf fx body ρ1 l2 with
      | nx ρ2 l3 =>
        rw [q] at z
        exact fun F3 ms3 H3 σ3 t3 S3 E3 => ⟨F3, ms3, ρ2, l3, S3, E3, FinO.shift (o := whGo (evT cf fx c) (evSs cf fx body) m ρ2 l3) t3 z⟩
      | ct ρ2 l3 =>
        rw [q] at z
        exact fun F3 ms3 H3 σ3 t3 S3 E3 => ⟨F3, ms3, ρ2, l3, S3, E3, FinO.shift (o := whGo (evT cf fx c) (evSs cf fx body) m ρ2 l3) t3 z⟩
      | bk ρ2 l3 => rw [q] at z; exact z
      | rt w l3 => rw [q] at z; exact z
      | exc c p ρ2 l3 => rw [q] at z; exact z
      | bad => rw [q] at z; exact z
/-- the context of a suite -/
theorem Cxt.suite {X : Cx} {sc : Scope} {Wx : WX} (C : Cxt T k X sc Wx) {sp2 : Spv} (a : Addr) (pn : List (Addr × PySem.Obj)) (hx : ∀ b c ds, sp2.P b c ds → ∃ (oe : PySem.Obj) (x : Str), (b, oe) ∈ pn ∧ Zc (.ref (T.ca c)) none oe ∧ (∃ vs, oe.data = .fields vs) ∧ T.cn[c]? = some x) : @Cxt _ sp2 T.toHot k (X.suite a pn) sc W0 := by
  obtain ⟨f, h1, h2, h3, h4, h5, h6, h7, h8, h9⟩ := C
  exact @Cxt.mk _ sp2 T.toHot k (X.suite a pn) sc W0 (@Facts.hotter _ sp sp2 _ _ _ _ _ _ _ f) h1 h2 (fun h => Bool.noConfusion (show true = false from h)) (fun h => Bool.noConfusion (show true = false from h)) h5 (fun h => Bool.noConfusion (show true = false from h)) (fun h => Bool.noConfusion (show true = false from h)) (fun _ => hx) (fun h => Bool.noConfusion (show false = true from h))
theorem CxS.suite {X : Cx} (C : CxS X) (a : Addr) (pn : List (Addr × PySem.Obj)) : CxS (X.suite a pn) := ⟨C.stk, C.frm, PassesOwn.never, C.own, C.kind⟩
/-- what stands for the exception in the suite -/
@[reducible] def svE (T : Tab) (a : Addr) (cls : Value) (d : Option Addr) : Spv := ⟨fun b c _ => b = a ∧ cls = .ref (T.ca c) ∧ d = none ∧ ∃ x, T.cn[c]? = some x⟩
theorem svE_ok {T : Tab} {a : Addr} {cls : Value} {d : Option Addr} {oe : PySem.Obj} {pn : List (Addr × PySem.Obj)} (hz : Zc cls d oe) (hf : ∃ vs, oe.data = .fields vs) : ∀ b c ds, (svE T a cls d).P b c ds → ∃ (o : PySem.Obj) (x : Str), (b, o) ∈ (a, oe) :: pn ∧ Zc (.ref (T.ca c)) none o ∧ (∃ vs, o.data = .fields vs) ∧ T.cn[c]? = some x := by
  rintro b c ds ⟨rfl, rfl, rfl, x, hc⟩
  exact ⟨oe, x, List.mem_cons_self, hz, hf, hc⟩
/-- try: one class, no name -/
theorem try_ps {X : Cx} {sc : Scope} {Wx : WX} {fx : Loc} {c : Nat} {body suite : Sts} {x : Str} {b : List Stmt} {s0 : Stmt} {sr : List Stmt} {np pos pos' : Pos} (C : Cxt T k X sc Wx) (CS : CxS X) (hh : T.hot = false) (hg : okG sc x = true) (hc : T.cn[c]? = some x)
    (hb : ∀ (W' : WX) (pn : List (Addr × PySem.Obj)) (xe : Value → Shared → Prop), Takes (X.tr pn xe) W' → PassesOwn (model X.prog X.w) X.A X.env xe → PSs (X.tr pn xe) b (sOf T W' fx (evSs (cfA T k ak) fx body)))
    (hs : ∀ (Y : Cx), Y.N = X.N → Cxt T.toHot k Y sc W0 → CxS Y → PSs Y (s0 :: sr) (sOf T.toHot W0 fx (evSs (cfA T k ak) fx suite))) : PS X (.Try b [.ExceptHandler (some (.Name x np)) none (s0 :: sr) pos'] [] [] pos) (sOf T Wx fx (evS (cfA T k ak) fx (.try c none body suite))) := by
  obtain ⟨g1, g2⟩ := gl_of C.sc hg
  obtain ⟨m1, m2, m3, m4, m5⟩ := C.facts.exc c x hc
  refine ps_mono (ps_try_only (c := .ref (T.ca c)) CS.stk CS.frm ⟨g1, g2, .inl m1⟩ (C.tk hh) hb fun a oe cls d pn hz hf => hs (X.suite a ((a, oe) :: pn)) rfl (C.suite a _ fun b c ds z => absurd z (C.cold hh b c ds)) (CS.suite a _)) fun D σ H ⟨F, ms, ρ, l, S, E, h⟩ => ?_
  refine ⟨F, ms, ρ, l, S, E, ?_⟩
  have h' : FinO T Wx fx F ms H (tryO T.sub c none (evSs (cfA T k ak) fx suite) (evSs (cfA T k ak) fx body ρ l)) D := h
  cases q : evSs (cfA T k ak) fx body ρ l with
  | nx ρ2 l2 => rw [q] at h'; exact h'
  | bk ρ2 l2 => rw [q] at h'; exact h'
  | ct ρ2 l2 => rw [q] at h'; exact h'
  | rt w l2 => rw [q] at h'; exact h'
  | bad => rw [q] at h'; exact h'
  | exc c' p ρ2 l2 =>
    rw [q] at h'
    unfold tryO at h'
    dsimp only at h'
    cases qs : T.sub c' c with
    | none => rw [qs] at h'; exact h'.elim
    | some v =>
      rw [qs] at h'
      have hx := C.facts.exm c' c v qs
      cases v with
      | false => exact fun e F' ms' H' σ' t' S' E' => ⟨false, hx, fun z => absurd z Bool.false_ne_true, fun _ => h' e F' ms' H' σ' t' S' E'⟩
      | true =>
        refine fun e F' ms' H' σ' t' S' E' => ⟨true, hx, fun _ a ha => ⟨F', ms', ρ2, l2, S', E', ?_⟩, fun z => absurd z (by decide)⟩
        dsimp only at h'
        cases q3 : evSs (cfA T k ak) fx suite ρ2 l2 with
        | nx ρ3 l3 => rw [q3] at h'; exact FinO.shift (o := .nx ρ3 l3) (Wx := W0) t' h'
        | bk ρ3 l3 => rw [q3] at h'; exact FinO.shift (o := .bk ρ3 l3) (Wx := W0) t' h'
        | ct ρ3 l3 => rw [q3] at h'; exact FinO.shift (o := .ct ρ3 l3) (Wx := W0) t' h'
        | rt w l3 => rw [q3] at h'; exact FinO.shift (o := .rt w l3) (Wx := W0) t' h'
        | exc c2 p2 ρ3 l3 => rw [q3] at h'; exact h'.elim
        | bad => rw [q3] at h'; exact h'.elim
/-- from a suite's end to what follows the try -/
theorem out_suite {X : Cx} {Wx : WX} {fx : Loc} {F F0 : Hp} {ms ms0 : List Addr} {H H0 : Hp} {ρ : Env} {σ : L2.St} {l : Loc} {i : Nat} {D : Ends} {o : Out} (z : ∀ a c ds, ¬ sp.P a c ds) (t : Stp F0 ms0 H0 F ms H) (S : SRel F ms (fx ++ l) H) (E : EnvR F ms ρ σ) (σ1 : L2.St) (hl : σ1.length = σ.length)
    (h : FinO T Wx fx F0 ms0 H0 (outS i ρ l o) D) {sv : Spv} : @FinO _ sv T.toHot W0 fx F ms H o { nx := fun σ' H' => D.nx (σ'.set i none) H', rt := D.rt, bk := fun σ' H' => D.bk (σ'.set i none) H', ct := fun σ' H' => D.ct (σ'.set i none) H' } := by
  have lE : ρ.length = σ.length := by
    obtain ⟨x, _⟩ := E
    exact x
  unfold outS at h
  cases o with
  | nx ρ2 l2 =>
    dsimp only at h
    split at h
    · rename_i q
      obtain ⟨rfl, q2⟩ := q
      intro F3 ms3 H3 σ3 t3 S3 E3
      have l3 : ρ2.length = σ3.length := by obtain ⟨x, _⟩ := E3; exact x
      exact h F3 ms3 H3 _ (t.trans t3) (@SRel.down _ sp sv _ _ _ _ _ _ _ z S S3) (@EnvR.out _ sp sv _ _ _ _ _ _ _ _ _ z E E3 (by omega))
    · exact h.elim
  | rt w l2 =>
    dsimp only at h
    split at h
    · rename_i q
      obtain ⟨rfl, q2⟩ := q
      intro F3 ms3 H3 v t3 S3 p3
      exact h F3 ms3 H3 v (t.trans t3) (@SRel.down _ sp sv _ _ _ _ _ _ _ z S S3) (@Rp.conv _ sv sp _ _ _ _ q2 p3)
    · exact h.elim
  | bk ρ2 l2 => exact h.elim
  | ct ρ2 l2 => exact h.elim
  | exc c2 p2 ρ2 l2 => exact h.elim
  | bad => exact h.elim
/-- try .. except C as n -/
theorem tryAs_ps {X : Cx} {sc : Scope} {Wx : WX} {fx : Loc} {c i : Nat} {body suite : Sts} {x n : Str} {b : List Stmt} {s0 : Stmt} {sr : List Stmt} {np pos pos' : Pos} (C : Cxt T k X sc Wx) (CS : CxS X) (hh : T.hot = false) (hg : okG sc x = true) (hc : T.cn[c]? = some x) (hi : X.N[i]? = some n) (hn : sc.names.lookup n = some .local)
    (hb : ∀ (W' : WX) (pn : List (Addr × PySem.Obj)) (xe : Value → Shared → Prop), Takes (X.tr pn xe) W' → PassesOwn (model X.prog X.w) X.A X.env xe → PSs (X.tr pn xe) b (sOf T W' fx (evSs (cfA T k ak) fx body)))
    (hs : ∀ (sv : Spv) (Y : Cx), Y.N = X.N → @Cxt _ sv T.toHot k Y sc W0 → CxS Y → PSs Y (s0 :: sr) (@sOf _ sv T.toHot W0 fx (evSs (cfA T k ak) fx suite))) : PS X (.Try b [.ExceptHandler (some (.Name x np)) (some n) (s0 :: sr) pos'] [] [] pos) (sOf T Wx fx (evS (cfA T k ak) fx (.try c (some i) body suite))) := by
  obtain ⟨g1, g2⟩ := gl_of C.sc hg
  obtain ⟨m1, m2, m3, m4, m5⟩ := C.facts.exc c x hc
  have hk : X.env.kindOf n = some .local := by
    show X.env.scope.names.lookup n = some .local
    rw [C.sc]; exact hn
  refine ps_mono (ps_try_as (c := .ref (T.ca c)) (ts := fun a cls d => @sOf _ (svE T a cls d) T.toHot W0 fx (evSs (cfA T k ak) fx suite)) CS.stk CS.frm C.nd hi hk ⟨g1, g2, .inl m1⟩ (C.tk hh) hb fun a oe cls d pn hz hf => hs (svE T a cls d) (X.suite a ((a, oe) :: pn)) rfl (C.suite (sp2 := svE T a cls d) a _ (svE_ok hz hf)) (CS.suite a _)) fun D σ H ⟨F, ms, ρ, l, S, E, h⟩ => ?_
  refine ⟨F, ms, ρ, l, S, E, ?_⟩
  have h' : FinO T Wx fx F ms H (tryO T.sub c (some i) (evSs (cfA T k ak) fx suite) (evSs (cfA T k ak) fx body ρ l)) D := h
  cases q : evSs (cfA T k ak) fx body ρ l with
  | nx ρ2 l2 => rw [q] at h'; exact h'
  | bk ρ2 l2 => rw [q] at h'; exact h'
  | ct ρ2 l2 => rw [q] at h'; exact h'
  | rt w l2 => rw [q] at h'; exact h'
  | bad => rw [q] at h'; exact h'
  | exc c' p ρ2 l2 =>
    rw [q] at h'
    unfold tryO at h'
    dsimp only at h'
    cases qs : T.sub c' c with
    | none => rw [qs] at h'; exact h'.elim
    | some v =>
      rw [qs] at h'
      have hx := C.facts.exm c' c v qs
      cases v with
      | false => exact fun e F' ms' H' σ' t' S' E' => ⟨false, hx, fun z => absurd z Bool.false_ne_true, fun _ => h' e F' ms' H' σ' t' S' E'⟩
      | true =>
        refine fun e F' ms' H' σ' t' S' E' => ⟨true, hx, fun _ a ha => ?_, fun z => absurd z (by decide)⟩
        have z := C.cold hh
        have pe : @Rp (svE T a (.ref (T.ca c')) none) F' ms' (.ref a) (.d (.ins c' [p])) := by
          show @Rep (svE T a (.ref (T.ca c')) none) F' (.ref a) (.ins c' [p])
          unfold Rep
          exact ⟨a, rfl, rfl, rfl, rfl, C.facts.sbn c' c true qs⟩
        have Eu := @EnvR.set _ (svE T a (.ref (T.ca c')) none) _ _ _ _ _ _ (@EnvR.up _ sp (svE T a (.ref (T.ca c')) none) _ _ _ _ z E') pe i
        refine ⟨F', ms', ρ2.set i (some (.d (.ins c' [p]))), l2, @SRel.up _ sp (svE T a (.ref (T.ca c')) none) _ _ _ _ z S', Eu, ?_⟩
        exact out_suite (X := X) z t' S' E' (σ'.set i (some (.ref a))) (by simp) h'
theorem raise_ps {X : Cx} {sc : Scope} {Wx : WX} {fx : Loc} {cf : Cf} {c : Nat} {m : Str} {x z : Str} {j : Nat} {p p2 p3 pos : Pos} (C : Cxt T k X sc Wx) (hh : T.hot = false) (hg : okG sc x = true) (hc : T.cn[c]? = some x) :
    PS X (.Raise (some (.Call (.Name x p) [.Constant (.str z) j p2] [] p3)) none pos) (sOf T Wx fx (evS cf fx (.raise c m))) := by
  obtain ⟨g1, g2⟩ := gl_of C.sc hg
  obtain ⟨m1, m2, m3, m4, m5⟩ := C.facts.exc c x hc
  refine ps_mono (ps_raise (C.calm hh) (C.tk hh) (pmk_own PySem.F.excBase_ValueError m2 m1 m3 (raises_own m4 m5) g1 g2)) fun D σ H ⟨F, ms, ρ, l, S, E, h⟩ => ?_
  exact h rfl F ms H σ Stp.refl S E
/-- o[i] = value, of a list or a dict -/
def rSetA : V → V → V → Hp → (Hp → Prop) → Prop := fun o i v H Q => rSetL o i v H Q ∨ ∃ a H', o = .ref a ∧ DPut H a i v H' ∧ Q H'
theorem set_any {X : Cx} (hu : X.A.units + 1 < cLine) : PSet X rSetA := by
  intro pins s σ H o i v ov iv u Q I ro ri rv h
  rcases h with h | ⟨a, H', rfl, g, q⟩
  · exact set_list pins s σ H o i v ov iv u Q I ro ri rv h
  · cases ro
    exact d_setItem hu I g ri rv fun s' I' => ⟨H', I', q⟩
/-- o[i] = value -/
theorem setI_ps {X : Cx} {sc : Scope} {Wx : WX} {fx : Loc} {cf : Cf} {o i e : Ex} {x y v : Expr} {p pos : Pos} (C : Cxt T k X sc Wx) (hv : PE X v (tE T Wx fx (evE cf fx e))) (ho : PE X x (tE T Wx fx (evE cf fx o))) (hi : PE X y (tE T Wx fx (evE cf fx i)))
    (h1 : noLc v = true) (h2 : nsl y = true) : PS X (.Assign [.Subscript x y p] v pos) (sOf T Wx fx (evS cf fx (.setI o i e))) := by
  refine ps_mono (ps_asg hv (pg_sub ho hi (set_any (by have := C.un; omega)) (ix_asg h2)) (sws_no h1) (by cases v <;> rfl) rfl) fun D σ H ⟨F, ms, ρ, l, S, E, h⟩ => ⟨F, ms, ρ, l, S, E, (FinO.out E h).mono fun w l1 F1 ms1 H1 t1 S1 z u pu => ?_⟩
  refine ⟨F1, ms1, ρ, l1, S1, E.stp t1, (FinO.out (E.stp t1) z).mono fun wo l2 F2 ms2 H2 t2 S2 z2 uo po => ?_⟩
  refine ⟨F2, ms2, ρ, l2, S2, (E.stp t1).stp t2, (FinO.out ((E.stp t1).stp t2) z2).mono fun wi l3 F3 ms3 H3 t3 S3 z3 ui pi => ?_⟩
  cases q : setIW fx l3 wo wi w with
  | none => rw [q] at z3; exact z3.elim
  | some l4 =>
    rw [q] at z3
    unfold setIW at q
    split at q
    · rename_i n kk
      have pp := po.stp t3
      obtain ⟨a, ea, rfl⟩ := pp
      have hm : a ∈ ms3 := List.mem_of_getElem? ea
      cases q2 : (fx ++ l3)[n]? with
      | none => rw [q2] at q; cases q
      | some ob =>
        rw [q2] at q
        cases ob with
        | ins _ _ => cases q
        | dead => cases q
        | dct ks =>
          dsimp only at q
          cases q3 : dKy kk with
          | none => rw [q3] at q; cases q
          | some ky =>
            rw [q3] at q
            have q4 : (if ks.length < 16777216 then put fx l3 n (.dct (putKy ks ky w)) else none) = some l4 := q
            split at q4
            · rename_i hz
              unfold put at q4
              split at q4
              · cases q4
              · rename_i hn
                cases q4
                obtain ⟨hF, kvs, hH, hl⟩ := S3.at_ n a _ ea q2
                have hj := dKy_rep pi q3
                subst hj
                have pw := (pu.stp t2).stp t3
                have e5 : fx ++ l3.set (n - fx.length) (Obj.dct (putKy ks ky w)) = (fx ++ l3).set n (.dct (putKy ks ky w)) := by
                  rw [List.set_append_right _ _ (by omega)]
                refine .inr ⟨a, _, rfl, DPut.k hH (by rw [hl.len, line_eq]; exact hz), z3 F3 ms3 _ σ (Stp.write hm) ?_ (((E.stp t1).stp t2).stp t3)⟩
                rw [e5]
                exact S3.write ea hF hH ⟨hF, _, upd_same, hl.put pw⟩
            · cases q4
        | lst ws =>
          dsimp only at q
          cases kk <;> first | (cases q; done) | skip
          rename_i j
          dsimp only at q
          cases q3 : ixn ws.length j with
          | none => rw [q3] at q; cases q
          | some m =>
            rw [q3] at q
            have q4 : put fx l3 n (.lst (ws.set m w)) = some l4 := q
            unfold put at q4
            split at q4
            · cases q4
            · rename_i hn
              cases q4
              obtain ⟨hF, vs, hH, hl⟩ := S3.at_ n a _ ea q2
              have hj : ui = .int j := pi
              refine .inl ⟨a, vs, j, m, rfl, hj, hH, by rw [hl.len]; exact q3, ?_⟩
              have e5 : fx ++ l3.set (n - fx.length) (Obj.lst (ws.set m w)) = (fx ++ l3).set n (.lst (ws.set m w)) := by
                rw [List.set_append_right _ _ (by omega)]
              refine z3 F3 ms3 _ σ (Stp.write hm) ?_ (((E.stp t1).stp t2).stp t3)
              rw [e5]
              exact S3.write ea hF hH ⟨hF, _, upd_same, hl.set m ((pu.stp t2).stp t3)⟩
    · cases q
theorem lcParts {N : List Str} {sc : Scope} {m : Bool} {tg : Tg} {kk : Ik} {ie : Exs} {cs : Tes} {e : Ex} {own : List (Str × Nat)} {elt : Expr} {gs : List Comprehension} {scope : Scope} {pos : Pos} (h : okE T N sc (.lc m tg kk ie cs e own) (.ListComp elt gs scope pos) = true) :
    ∃ tx iter ifs, gs = [⟨tx, iter, ifs, 0⟩] ∧ blkC N sc scope own = true ∧ okTg N scope tg tx = true ∧ (tgIs tg).all (fun i => (own.map (·.2)).contains i) = true ∧ nset iter = true ∧ okI T N sc kk ie iter = true ∧ okTs T N (relS scope sc) cs ifs = true ∧ okE T N (relS scope sc) e elt = true ∧ T.hot = false := by
  match gs, h with
  | [], h => exact absurd h Bool.false_ne_true
  | ⟨_, _, _, n⟩ :: _ :: _, h => exfalso; simp [okE] at h
  | [⟨tx, iter, ifs, n⟩], h =>
    have hn : n = 0 := by
      rcases Decidable.em (n = 0) with e | e
      · exact e
      · exfalso
        simp [okE, e] at h
    subst hn
    obtain ⟨h123456, h7⟩ := and2 (show (!T.hot && blkC N sc scope own && okTg N scope tg tx && (tgIs tg).all (fun i => (own.map (·.2)).contains i) && nset iter && okI T N sc kk ie iter && okTs T N (relS scope sc) cs ifs && okE T N (relS scope sc) e elt) = true from h)
    obtain ⟨h12345, h6⟩ := and2 h123456
    obtain ⟨h1234, h5⟩ := and2 h12345
    obtain ⟨h123, h4⟩ := and2 h1234
    obtain ⟨h12, h3⟩ := and2 h123
    obtain ⟨h01, h2⟩ := and2 h12
    obtain ⟨h0, h1⟩ := and2 h01
    exact ⟨_, _, _, rfl, h1, h2, h3, h4, h5, h6, h7, by simpa using h0⟩
theorem lcA_ps {X : Cx} {sc : Scope} {Wx : WX} {fx : Loc} {tg : Tg} {e : Ex} {t v : Expr} {pos : Pos} (hq : T.ask = true → AskOk T k ak) (C : Cxt T k X sc Wx) (CS : CxS X) (h : okLcA T X.N sc tg e t v = true) : PS X (.Assign [t] v pos) (sOf T Wx fx (evS (cfA T k ak) fx (.asg tg e))) := by
  cases tg with
  | t _ => exact absurd h Bool.false_ne_true
  | n i =>
    cases e <;> first | (exact absurd h Bool.false_ne_true) | skip
    rename_i m tg kk ie cs ee own
    cases t <;> first | (exact absurd h Bool.false_ne_true) | skip
    rename_i y py
    cases v <;> first | (exact absurd h Bool.false_ne_true) | skip
    rename_i elt gs scope lpos
    obtain ⟨a1234, a5⟩ := and2 (show (decide (X.N[i]? = some y) && decide (sc.names.lookup y = some .local) && (py.line == lpos.line) && !(scope.names.any fun (n, k) => n == y && (k == .local || k == .cell)) && okE T X.N sc (.lc m tg kk ie cs ee own) (.ListComp elt gs scope lpos)) = true from h)
    obtain ⟨a123, a4⟩ := and2 a1234
    obtain ⟨a12, a3⟩ := and2 a123
    obtain ⟨a1, a2⟩ := and2 a12
    have b1 := of_decide_eq_true a1
    have b2 := of_decide_eq_true a2
    have b4 : (scope.names.any fun (n, k) => n == y && (k == .local || k == .cell)) = false := by simpa using a4
    obtain ⟨tx, iter, ifs, rfl, h1, h2, h3, h4, h5, h6, h7, hh⟩ := lcParts a5
    have hb : BlkOk X.N sc scope own := blkOk_by h1
    have hb' : BlkOk X.N X.env.scope scope own := by rw [C.sc]; exact hb
    have hgg : ∀ (s : Shared) (H : Hp) (B : Addr) (cl : List (Str × Addr)) (fp : List Addr), PG (X.blk s H scope (compEnvC scope cl B X.env) fp) tx (gOf X.K tg) :=
      fun s H B cl fp => tg_pg (X := X.blk s H scope (compEnvC scope cl B X.env) fp) (tg := tg) C.nd (C.calm hh) (owns_blk hb s H B cl fp) h2
    refine ps_mono (ps_setLc (own := own) (C.calm hh) C.nd b1 (by rw [C.sc]; exact b2) (sw_true CS.kind (by rw [C.sc]; exact b2) a3 b4) (sndI kk ie T hq X sc Wx fx tx iter C h5) hb'
      hgg
      (fun s H B cl fp => sndTs cs T hq (X.blk s H scope (compEnvC scope cl B X.env) fp) (relS scope sc) W0 fx ifs (C.blk hh s H scope B cl fp) h6)
      (fun s H B cl fp => sndE ee T hq (X.blk s H scope (compEnvC scope cl B X.env) fp) (relS scope sc) W0 fx elt (C.blk hh s H scope B cl fp) h7) (fold_id h4)) fun D σ H ⟨F, ms, ρ, l, S, E, h⟩ => ?_
    refine lc_read (m := m) (K := X.K) (fun i hi => by simpa using List.all_eq_true.mp h3 i hi) ⟨F, ms, ρ, l, S, E, ?_⟩
    refine (FinO.out E h).mono fun w l1 F1 ms1 H1 t1 S1 z v p => ?_
    exact z F1 ms1 H1 _ Stp.refl S1 ((E.stp t1).set p i)

theorem okTry {N : List Str} {sc : Scope} {c : Nat} {e : Option Nat} {body suite : Sts} {st : Stmt} (h : okS T N sc (.try c e body suite) st = true) :
    ∃ b x nm np s0 sr p1 p2, st = .Try b [.ExceptHandler (some (.Name x np)) nm (s0 :: sr) p1] [] [] p2 ∧ T.hot = false ∧ okAs N sc e nm = true ∧ okG sc x = true ∧ T.cn[c]? = some x ∧ okSs T N sc body b = true ∧ okSs T.toHot N sc suite (s0 :: sr) = true := by
  unfold okS at h
  split at h <;> first | (exact absurd h Bool.false_ne_true) | skip
  all_goals first
    | (rename_i e1; cases e1; done)
    | (rename_i e1 _; cases e1; done)
    | skip
  rename_i hh
  cases hh
  obtain ⟨h12345, h6⟩ := and2 h
  obtain ⟨h1234, h5⟩ := and2 h12345
  obtain ⟨h123, h4⟩ := and2 h1234
  obtain ⟨h12, h3⟩ := and2 h123
  obtain ⟨h1, h2⟩ := and2 h12
  exact ⟨_, _, _, _, _, _, _, _, rfl, by simpa using h1, h2, h3, of_decide_eq_true h4, h5, h6⟩
theorem tgc_pg {X : Cx} {sc : Scope} {Wx : WX} {tg : Tg} {t : Expr} (C : Cxt T k X sc Wx) (CS : CxS X) (h0 : (!T.hot || tgN tg) = true) (h : okTg X.N sc tg t = true) : PG X t (gOf X.K tg) := by
  cases hh : T.hot with
  | false => exact tg_pg C.nd (C.calm hh) (owns_of CS C.sc) h
  | true =>
    rw [hh] at h0
    cases tg with
    | t is => exact absurd h0 Bool.false_ne_true
    | n i =>
      cases t <;> first | (exact absurd h Bool.false_ne_true) | skip
      exact name_pg C.nd (owns_of CS C.sc) h
/-! the statements -/
mutual
theorem sndS : ∀ (ir : St) (sp : Spv) (T : Tab) (hq : T.ask = true → AskOk T k ak) (X : Cx) (sc : Scope) (Wx : WX) (fx : Loc) (st : Stmt), Cxt T k X sc Wx → CxS X → okS T X.N sc ir st = true → PS X st (sOf T Wx fx (evS (cfA T k ak) fx ir))
  | .asg tg e, sp, T, hq, X, sc, Wx, fx, st, C, CS, h => by
    cases st <;> first | (exact absurd h Bool.false_ne_true) | skip
    rename_i ts v p
    match ts, h with
    | [], h => exact absurd h Bool.false_ne_true
    | _ :: _ :: _, h => exact absurd h Bool.false_ne_true
    | [t], h =>
      rcases Bool.or_eq_true_iff.mp (show (((!T.hot || tgN tg) && noSw sc t v && parOk t v && okTg X.N sc tg t && okE T X.N sc e v) || okLcA T X.N sc tg e t v) = true from h) with h | h
      · obtain ⟨h123, h4⟩ := and2 h
        obtain ⟨h12, h3⟩ := and2 h123
        obtain ⟨h01, h2⟩ := and2 h12
        obtain ⟨h0, h1⟩ := and2 h01
        exact asg_ps (sndE e T hq X sc Wx fx v C h4) (tgc_pg C CS h0 h3) (sws_cell C.sc h1) h2
      · exact lcA_ps hq C CS h
  | .setI o i e, sp, T, hq, X, sc, Wx, fx, st, C, CS, h => by
    cases st <;> first | (exact absurd h Bool.false_ne_true) | skip
    rename_i ts v p
    match ts, h with
    | [], h => exact absurd h Bool.false_ne_true
    | t :: _ :: _, h => exfalso; cases t <;> exact absurd h Bool.false_ne_true
    | [t], h =>
      cases t <;> first | (exact absurd h Bool.false_ne_true) | skip
      rename_i x y p2
      obtain ⟨h1234, h5⟩ := and2 (show (noLc v && nsl y && okE T X.N sc o x && okE T X.N sc i y && okE T X.N sc e v) = true from h)
      obtain ⟨h123, h4⟩ := and2 h1234
      obtain ⟨h12, h3⟩ := and2 h123
      obtain ⟨h1, h2⟩ := and2 h12
      exact setI_ps C (sndE e T hq X sc Wx fx v C h5) (sndE o T hq X sc Wx fx x C h3) (sndE i T hq X sc Wx fx y C h4) h1 h2
  | .ex e, sp, T, hq, X, sc, Wx, fx, st, C, CS, h => by
    cases st <;> first | (exact absurd h Bool.false_ne_true) | skip
    rename_i v p
    obtain ⟨h1, h2⟩ := and2 (show (noLc v && okE T X.N sc e v) = true from h)
    exact ps_mono (ps_expr (sndE e T hq X sc Wx fx v C h2) (sw_no h1)) fun D σ H ⟨F, ms, ρ, l, S, E, h⟩ => ⟨F, ms, ρ, l, S, E, (FinO.out E h).mono fun w l1 F1 ms1 H1 t1 S1 z v p => z F1 ms1 H1 σ Stp.refl S1 (E.stp t1)⟩
  | .ret e, sp, T, hq, X, sc, Wx, fx, st, C, CS, h => by
    cases st <;> first | (exact absurd h Bool.false_ne_true) | skip
    rename_i v p
    cases v with
    | none => exact absurd h Bool.false_ne_true
    | some v => exact ret_ps (sndE e T hq X sc Wx fx v C h)
  | .ifs c a b, sp, T, hq, X, sc, Wx, fx, st, C, CS, h => by
    cases st <;> first | (exact absurd h Bool.false_ne_true) | skip
    rename_i t x y p
    obtain ⟨h12, h3⟩ := and2 (show (okT T X.N sc c t && okSs T X.N sc a x && okSs T X.N sc b y) = true from h)
    obtain ⟨h1, h2⟩ := and2 h12
    refine ps_mono (ps_if (sndT c T hq X sc Wx fx t C h1) (sndSs a sp T hq X sc Wx fx x C CS h2) (sndSs b sp T hq X sc Wx fx y C CS h3)) fun D σ H ⟨F, ms, ρ, l, S, E, h⟩ => ⟨F, ms, ρ, l, S, E, (FinO.out E h).mono fun b l1 F1 ms1 H1 t1 S1 z => ?_⟩
    cases b with
    | true => rw [if_pos rfl]; exact ⟨F1, ms1, ρ, l1, S1, E.stp t1, z⟩
    | false => rw [if_neg Bool.false_ne_true]; exact ⟨F1, ms1, ρ, l1, S1, E.stp t1, z⟩
  | .for tg kk ie body, sp, T, hq, X, sc, Wx, fx, st, C, CS, h => by
    cases st <;> first | (exact absurd h Bool.false_ne_true) | skip
    rename_i t iter b els p
    cases els with
    | cons _ _ => exact absurd h Bool.false_ne_true
    | nil =>
      obtain ⟨h123, h4⟩ := and2 (show (!T.hot && nset iter && okTg X.N sc tg t && okI T X.N sc kk ie iter && okSs T X.N sc body b) = true from h)
      obtain ⟨h12, h3⟩ := and2 h123
      obtain ⟨h01, h2⟩ := and2 h12
      obtain ⟨h0, h1⟩ := and2 h01
      have hh : T.hot = false := by simpa using h0
      exact for_ps (sc := sc) (C.calm hh) CS (sndI kk ie T hq X sc Wx fx t iter C h3) (tg_pg C.nd (C.calm hh) (owns_of CS C.sc) h2) (sndSs body sp T hq X sc Wx fx b C CS h4) h1
  | .whl n c body, sp, T, hq, X, sc, Wx, fx, st, C, CS, h => by
    cases st <;> first | (exact absurd h Bool.false_ne_true) | skip
    rename_i t b els p
    cases els with
    | cons _ _ => exact absurd h Bool.false_ne_true
    | nil =>
      obtain ⟨h1, h2⟩ := and2 (show (okT T X.N sc c t && okSs T X.N sc body b) = true from h)
      exact whl_ps CS (sndT c T hq X sc Wx fx t C h1) (sndSs body sp T hq X sc Wx fx b C CS h2)
  | .raise c m, sp, T, hq, X, sc, Wx, fx, st, C, CS, h => by
    cases st <;> first | (exact absurd h Bool.false_ne_true) | skip
    rename_i e f p
    cases e with
    | none => exact absurd h Bool.false_ne_true
    | some e =>
      cases e <;> first | (exact absurd h Bool.false_ne_true) | skip
      rename_i fn xs kws p2
      cases fn <;> first | (exact absurd h Bool.false_ne_true) | skip
      rename_i x p3
      match xs, h with
      | [], h => exact absurd h Bool.false_ne_true
      | [y], h =>
        cases y <;> first | (exact absurd h Bool.false_ne_true) | skip
        rename_i kk j p4
        cases kk <;> first | (exact absurd h Bool.false_ne_true) | skip
        rename_i z
        match kws, f, h with
        | [], none, h =>
          obtain ⟨h01, h2⟩ := and2 (show (!T.hot && okG sc x && decide (T.cn[c]? = some x)) = true from h)
          obtain ⟨h0, h1⟩ := and2 h01
          exact raise_ps C (by simpa using h0) h1 (of_decide_eq_true h2)
        | [], some _, h => exact absurd h Bool.false_ne_true
        | _ :: _, _, h => exact absurd h Bool.false_ne_true
      | y :: _ :: _, h =>
        exfalso
        cases y <;> first | (exact absurd h Bool.false_ne_true) | skip
        rename_i kk j p4
        cases kk <;> exact absurd h Bool.false_ne_true
  | .try c e body suite, sp, T, hq, X, sc, Wx, fx, st, C, CS, h => by
    obtain ⟨b, x, nm, np, s0, sr, p1, p2, rfl, hh, ha, h1, h2, h3, h4⟩ := okTry h
    have hb : ∀ (W' : WX) (pn : List (Addr × PySem.Obj)) (xe : Value → Shared → Prop), Takes (X.tr pn xe) W' → PassesOwn (model X.prog X.w) X.A X.env xe → PSs (X.tr pn xe) b (sOf T W' fx (evSs (cfA T k ak) fx body)) := fun W' pn xe tk ps =>
      sndSs body sp T hq (X.tr pn xe) sc W' fx b ⟨C.facts, C.sc, C.nd, C.calm, C.room, C.un, fun _ => tk, C.cold, (fun z => by rw [hh] at z; cases z), fun z => ⟨(C.lam z).has, (C.lam z).room⟩⟩ ⟨CS.stk, CS.frm, ps, CS.own, CS.kind⟩ h3
    match e, nm, ha with
    | none, none, _ => exact try_ps C CS hh h1 h2 hb fun Y hY CY SY => sndSs suite sp T.toHot (fun z => Bool.noConfusion (show false = true from z)) Y sc W0 fx (s0 :: sr) CY SY (by rw [hY]; exact h4)
    | some i, some n, ha =>
      obtain ⟨a1, a2⟩ := and2 (show (decide (X.N[i]? = some n) && decide (sc.names.lookup n = some .local)) = true from ha)
      exact tryAs_ps C CS hh h1 h2 (of_decide_eq_true a1) (of_decide_eq_true a2) hb fun sv Y hY CY SY => sndSs suite sv T.toHot (fun z => Bool.noConfusion (show false = true from z)) Y sc W0 fx (s0 :: sr) CY SY (by rw [hY]; exact h4)
    | none, some _, ha => exact absurd ha Bool.false_ne_true
    | some _, none, ha => exact absurd ha Bool.false_ne_true
  | .pass, sp, T, hq, X, sc, Wx, fx, st, C, CS, h => by
    cases st <;> first | (exact absurd h Bool.false_ne_true) | skip
    exact pass_ps
theorem sndSs : ∀ (ir : Sts) (sp : Spv) (T : Tab) (hq : T.ask = true → AskOk T k ak) (X : Cx) (sc : Scope) (Wx : WX) (fx : Loc) (sts : List Stmt), Cxt T k X sc Wx → CxS X → okSs T X.N sc ir sts = true → PSs X sts (sOf T Wx fx (evSs (cfA T k ak) fx ir))
  | .nil, sp, T, hq, X, sc, Wx, fx, sts, C, CS, h => by
    cases sts with
    | cons _ _ => exact absurd h Bool.false_ne_true
    | nil => exact nil_ps
  | .cons s r, sp, T, hq, X, sc, Wx, fx, sts, C, CS, h => by
    cases sts with
    | nil => exact absurd h Bool.false_ne_true
    | cons st rest =>
      obtain ⟨h1, h2⟩ := and2 (show (okS T X.N sc s st && okSs T X.N sc r rest) = true from h)
      exact cons_ps (sndS s sp T hq X sc Wx fx st C CS h1) (sndSs r sp T hq X sc Wx fx rest C CS h2)
end
end
end Vx

set_option maxHeartbeats 4000000
/-! ### a call that hands a lambda -/
namespace Vx
open PySem PySem.Spec PyProof.Rows L2
variable [tb : Tbs] [sp : Spv]
mutual
theorem conE_ev {cf : Cf} {fx : Loc} : ∀ (e : Ex) (d : D) (ρ : Env) (l : Loc), conE e = some d → evE cf fx e ρ l = .ok (.d d) l
  | .c x, d, ρ, l, h => by cases (show some x = some d from h); rfl
  | .tup es, d, ρ, l, h => by
    have h' : ((conL es).bind fun ds => if ds.length ≤ 16777216 then some (D.tup ds) else none) = some d := h
    cases q : conL es with
    | none => rw [q] at h'; cases h'
    | some ds =>
      rw [q] at h'
      have h2 : (if ds.length ≤ 16777216 then some (D.tup ds) else none) = some d := h'
      have e1 := conL_ev (cf := cf) (fx := fx) es ds ρ l q
      have e2 : ∀ ds : List D, unW (ds.map .d) = some ds := fun ds => by
        induction ds with
        | nil => rfl
        | cons x r ih => show (unW (r.map .d)).map (x :: ·) = _; rw [ih]; rfl
      split at h2
      · rename_i hz
        cases h2
        show (evL cf fx es ρ l).bind _ = _
        rw [e1]
        simp [e2, hz]
      · cases h2
  | .v _, _, _, _, h => nomatch h
  | .g _ _, _, _, _, h => nomatch h
  | .op _ _ _, _, _, _, h => nomatch h
  | .chain _ _ _ _ _, _, _, _, h => nomatch h
  | .and _ _, _, _, _, h => nomatch h
  | .or _ _, _, _, _, h => nomatch h
  | .not _, _, _, _, h => nomatch h
  | .neg _, _, _, _, h => nomatch h
  | .ite _ _ _, _, _, _, h => nomatch h
  | .lst _ _, _, _, _, h => nomatch h
  | .idx _ _, _, _, _, h => nomatch h
  | .sl _ _ _, _, _, _, h => nomatch h
  | .call _ _ _, _, _, _, h => nomatch h
  | .bi _ _, _, _, _, h => nomatch h
  | .sm _ _ _, _, _, _, h => nomatch h
  | .lc _ _ _ _ _ _ _, _, _, _, h => nomatch h
  | .frz _, _, _, _, h => nomatch h
  | .dnew, _, _, _, h => nomatch h
  | .dnewF, _, _, _, h => nomatch h
  | .isx _ _, _, _, _, h => nomatch h
  | .act _, _, _, _, h => nomatch h
  | .ask _ _, _, _, _, h => nomatch h
theorem conL_ev {cf : Cf} {fx : Loc} : ∀ (es : Exs) (ds : List D) (ρ : Env) (l : Loc), conL es = some ds → evL cf fx es ρ l = .ok (ds.map .d) l
  | .nil, ds, ρ, l, h => by cases (show some [] = some ds from h); rfl
  | .cons e es, ds, ρ, l, h => by
    have h' : ((conE e).bind fun d => (conL es).map (d :: ·)) = some ds := h
    cases q : conE e with
    | none => rw [q] at h'; cases h'
    | some d =>
      cases q2 : conL es with
      | none => rw [q, q2] at h'; cases h'
      | some r =>
        rw [q, q2] at h'
        cases h'
        show (evE cf fx e ρ l).bind _ = _
        rw [conE_ev e d ρ l q, Res.bind_ok, conL_ev es r ρ l q2]
        rfl
end
theorem okAsk_of {T : Tab} {N : List Str} {sc : Scope} {A : Asker} {b : List Stmt} (h : okAsk T N sc A b = true) :
    ∃ y1 p1 v1 p2 y2 p3 k1 j1 p4 a p5 p6 n1 p7 p8 cx p9 en s0 sr p10 p11 y3 p12 p13,
      b = [.Assign [.Name y1 p1] v1 p2, .Try [.Assign [.Name y2 p3] (.Tuple [.Constant k1 j1 p4, .Call (.Name a p5) [] [] p6] n1 p7) p8] [.ExceptHandler (some (.Name cx p9)) (some en) (s0 :: sr) p10] [] [] p11, .Return (some (.Name y3 p12)) p13] ∧
      okN N sc A.x y1 = true ∧ okN N sc A.x y2 = true ∧ okV N sc A.x y3 = true ∧ noLc v1 = true ∧ okE T.toHot N sc A.init v1 = true ∧ (conE A.init).isSome = true ∧ okC A.told k1 = true ∧ okV N sc 0 a = true ∧ N[A.e]? = some en ∧ sc.names.lookup en = some .local ∧ okG sc cx = true ∧ T.cn[A.c]? = some cx ∧ okSs T.toHot N sc A.suite (s0 :: sr) = true := by
  unfold okAsk at h
  split at h
  · simp only [Bool.and_eq_true, decide_eq_true_eq] at h
    obtain ⟨⟨⟨⟨⟨⟨⟨⟨⟨⟨⟨⟨h1, h2⟩, h3⟩, h4⟩, h5⟩, h6⟩, h7⟩, h8⟩, h9⟩, h10⟩, h11⟩, h12⟩, h13⟩ := h
    exact ⟨_, _, _, _, _, _, _, _, _, _, _, _, _, _, _, _, _, _, _, _, _, _, _, _, _, rfl, h1, h2, h3, h4, h5, h6, h7, h8, h9, h10, h11, h12, h13⟩
  · exact absurd h Bool.false_ne_true
theorem askOf_ne {df : Def} {A : Asker} (h : askOf df = some A) : A.x ≠ 0 ∧ df.np = 1 ∧ A.x < df.nl ∧ A.e < df.nl ∧ noIns A.told = true := by
  unfold askOf at h
  split at h
  · split at h
    · rename_i q
      cases h
      exact ⟨q.2.2.1, q.2.2.2.2.2.1, q.2.2.2.2.2.2.1, q.2.2.2.2.2.2.2.1, q.2.2.2.2.2.2.2.2⟩
    · cases h
  · cases h
section
variable {T : Tab} {k : Nat}
/-- what the asker's return asks -/
abbrev askD (A : Asker) (Q : VK) : Ends := { nx := fun σ H => ∃ v, σ[A.x]? = some (some v) ∧ Q v H, rt := Q }
/-- what it wishes of an exception of the lambda -/
def askE (T : Tab) (fx : Loc) (A : Asker) (n : Nat) (K : PySem.W.Frag) (cf : Cf) (Q : VK) : XK := fun cls d H2 =>
  ∃ b, PySem.W.exmOne K cls (.ref (T.ca A.c)) = some b ∧ (b = true → ∀ a, H2 a = none → ∀ σ : L2.St, σ.length = n → @sOf _ (svE T a cls d) T.toHot W0 fx (evSs cf fx A.suite) { nx := fun σ' H' => (askD A Q).nx (σ'.set A.e none) H', rt := Q } (σ.set A.e (some (.ref a))) H2) ∧ (b = false → False)
/-- what it makes of a value of the lambda -/
def askQ (v0 : V) (Q : VK) : VK := fun v H2 => [v0, v].length ≤ sizeLine ∧ ∀ p, H2 p = none → Q (.ref p) (upd H2 p (.tup [v0, v]))
def askTT (T : Tab) (fx : Loc) (A : Asker) (n : Nat) (K : PySem.W.Frag) (cf : Cf) (v0 : V) : (XK → Hp → VK → Prop) → Hp → VK → Prop := fun tl H Q =>
  (∀ E1 E2 H Q1 Q2, (∀ c d H, E1 c d H → E2 c d H) → (∀ v H, Q1 v H → Q2 v H) → tl E1 H Q1 → tl E2 H Q2) ∧
  ∃ (F : Hp) (ms : List Addr) (l : Loc), SRel F ms (fx ++ l) H ∧ ∀ F1 ms1 H1, Stp F ms H F1 ms1 H1 → SRel F1 ms1 (fx ++ l) H1 → tl (askE T fx A n K cf Q) H1 (askQ v0 Q)
/-- the asker's body -/
theorem ask_gives {X : Cx} {sc : Scope} {Wx : WX} {fx : Loc} {A : Asker} {N : List Str} {x : Str} {sg : Scope} {g : Addr} {cdv : Value} {b : List Stmt} {a : Str} {v0 : V} {df : Def} (C : Cxt T k X sc Wx) (hh : T.hot = false) (hroom : Room (4 * k + 3) X.A) (SC : FnScope N [a] sg) (hN : df.nl = N.length) (hA : askOf df = some A) (hb : okAsk T N sg A b = true) (h0 : N[0]? = some a)
    (hv0 : ∀ (Y : Cx) (k1 : Const) (j : Nat) (p : Pos), okC A.told k1 = true → PE Y (.Constant k1 j p) (tC v0)) :
    LamX.GivesTo X N x sg g cdv b a (X.env.qual ++ "<lambda>") (askTT T fx A N.length X.K (cfA T k fun _ _ _ => .bad) v0) := by
  obtain ⟨y1, p1, v1, p2, y2, p3, k1, j1, p4, a', p5, p6, n1, p7, p8, cx, p9, en, s0, sr, p10, p11, y3, p12, p13, rfl, h1, h2, h3, h4, h5, h6, h7, h8, h9, h10, h11, h12, h13⟩ := okAsk_of hb
  obtain ⟨nx0, _, nx1, ne1, _⟩ := askOf_ne hA
  intro f c' s H Q tl act hc ⟨mono, F, ms, l, S, hT⟩
  have z := C.cold hh
  obtain ⟨d1, hd1⟩ := Option.isSome_iff_exists.mp h6
  obtain ⟨m1, m2, m3, m4, m5⟩ := C.facts.exc A.c cx h12
  have ea : a' = a := by
    have e1 : N[0]? = some a' := by
      unfold okV at h8
      simp only [Bool.and_eq_true, decide_eq_true_eq] at h8
      exact h8.1.1.1
    rw [h0] at e1
    exact (Option.some.inj e1).symm
  subst ea
  -- the context of the body
  let Z : Cx := (cxOf C8.CX0 X.prog X.w X.K X.mg X.base N x sg g cdv X.A X.stack s H C8.E0).nox
  have un : Z.A.units + 100 < cLine := by
    have := (hroom.deeper (envOfC x sg s.heap.objs.size g cdv)).un
    show (X.A.deeper (envOfC x sg s.heap.objs.size g cdv)).units + 100 < cLine
    omega
  have FA := C.facts
  have hZ : ∀ (Y : Cx), Y.prog = X.prog → Y.w = X.w → Y.K = X.K → Y.mg = X.mg → Y.base = X.base → Y.env.scope = sg → Y.N = N → Y.A.units + 100 < cLine → ∀ (sv : Spv), (∀ b c ds, sv.P b c ds → ∃ (o : PySem.Obj) (x : Str), (b, o) ∈ Y.pn ∧ Zc (.ref (T.ca c)) none o ∧ (∃ vs, o.data = .fields vs) ∧ T.cn[c]? = some x) → @Cxt _ sv T.toHot k Y sg W0 := by
    intro Y e1 e2 e3 e4 e5 e6 e7 e8 sv hx
    refine @Cxt.mk _ sv T.toHot k Y sg W0 ?_ e6 (by rw [e7]; exact SC.nd) (fun h => Bool.noConfusion (show true = false from h)) (fun h => Bool.noConfusion (show true = false from h)) e8 (fun h => Bool.noConfusion (show true = false from h)) (fun h => Bool.noConfusion (show true = false from h)) (fun _ => hx) (fun h => Bool.noConfusion (show false = true from h))
    rw [e1, e2, e3, e4, e5]
    exact @Facts.hotter _ sp sv _ _ _ _ _ _ _ FA
  have CZ : Cxt T.toHot k Z sg W0 := hZ Z rfl rfl rfl rfl rfl rfl rfl un sp fun b c ds q => absurd q (z b c ds)
  have own : Owns Z sg := owns_of (X := Z) ⟨rfl, rfl, PassesOwn.never, rfl, SC.kind⟩ rfl
  have hinit := sndE (k := k) (ak := fun _ _ _ => .bad) A.init T.toHot (fun h => Bool.noConfusion (show false = true from h)) Z sg W0 fx v1 CZ h5
  have nm : ∀ {y : Str}, okN N sg A.x y = true → N[A.x]? = some y ∧ L2.Loc sg y := fun {y} h => by
    unfold okN at h
    simp only [Bool.and_eq_true, Bool.or_eq_true, decide_eq_true_eq] at h
    exact ⟨h.1, h.2⟩
  obtain ⟨i1, l1⟩ := nm h1
  obtain ⟨i2, l2⟩ := nm h2
  obtain ⟨i3, vis3, db3, dc3⟩ := vis_of (X := Z) (sc := sg) rfl h3
  obtain ⟨g1, g2⟩ := gl_of (X := Z) (sc := sg) rfl h11
  obtain ⟨_, vis0, db0, dc0⟩ := vis_of (X := Z) (sc := sg) rfl h8
  have hpar : swappedStores [Expr.Name y1 p1] v1 Z.env = pure none := by cases v1 <;> rfl
  refine ⟨_, pss_cons (ps_asg (X := Z) hinit (pg_name (i := A.x) SC.nd i1 l1 (.inl rfl)) (sws_no h4) hpar rfl)
    (pss_cons (ps_try_as (X := Z) (i := A.e) (c := .ref (T.ca A.c)) (Wout := fun _ _ _ _ => False)
      (tb := fun W D σ H => ∃ E' : XK, (∀ cls d σ' H', E' cls d H' → W cls d σ' H') ∧ σ[0]? = some (some (.ref f)) ∧ H c' = some (LamX.CodeO c' (X.env.qual ++ "<lambda>")) ∧ tl E' H (fun v H2 => [v0, v].length ≤ sizeLine ∧ ∀ p, H2 p = none → D.nx (σ.set A.x (some (.ref p))) (upd H2 p (.tup [v0, v]))))
      (ts := fun a cls d D σ H => σ.length = N.length → @sOf _ (svE T a cls d) T.toHot W0 fx (evSs (cfA T k fun _ _ _ => .bad) fx A.suite) D σ H)
      rfl rfl SC.nd h9 h10 ⟨g1, g2, .inl m1⟩ LamX.takes0 (fun W pn xe tk _ => ?_) (fun a oe cls d pn hz hf => ?_))
    (pss_one (ps_ret (pe_var i3 vis3 db3 dc3)))), ?_⟩
  · refine ⟨fun pins s' σ H' D I h' => ?_⟩
    obtain ⟨E', hW, q1, q2, q3⟩ := h'
    have hp := act W pn xe E' p5 p6 tk hW
    have hq := pss_one (ps_asg (pos := p8) (pe_tup (x1 := n1) (pos := p7) (pa_cons (hv0 _ k1 j1 p4 h7) (pa_cons hp pa_nil))) (pg_name (pos := p3) (i := A.x) SC.nd i2 l2 (.inl rfl)) rfl rfl rfl)
    exact hq.run pins s' σ H' D I ⟨q1, q2, q3⟩
  · refine ⟨fun pins s' σ H' D I h' => ?_⟩
    have hY := hZ (Z.suite a ((a, oe) :: pn)) rfl rfl rfl rfl rfl rfl rfl un (svE T a cls d) (svE_ok hz hf)
    have hl : σ.length = N.length := I.len
    exact (sndSs (k := k) (ak := fun _ _ _ => .bad) A.suite (svE T a cls d) T.toHot (fun h => Bool.noConfusion (show false = true from h)) (Z.suite a ((a, oe) :: pn)) sg W0 fx (s0 :: sr) hY ⟨rfl, rfl, PassesOwn.never, rfl, SC.kind⟩ h13).run pins s' σ H' D I (h' hl)
  · have hlen : (L2.start N [V.ref f]).length = N.length := by
      have : 0 < N.length := (List.getElem?_eq_some_iff.mp h0).1
      simp [L2.start]; omega
    show tE T.toHot W0 fx (evE _ fx A.init) (L2.start N [.ref f]) H _
    refine ⟨F, ms, List.replicate N.length none, l, S, ⟨by simp [hlen], fun i w e => ?_⟩, ?_⟩
    · rw [List.getElem?_replicate] at e
      split at e <;> cases e
    · rw [conE_ev A.init d1 _ _ hd1]
      intro F1 ms1 H1 t1 S1 v pv
      refine ⟨askE T fx A N.length X.K (cfA T k fun _ _ _ => .bad) Q, ?_, ?_, t1.keep _ _ hc (S.notCode hc) rfl, ?_⟩
      · rintro cls d σ' H' ⟨b, e1, e2, e3⟩
        refine ⟨b, e1, fun hb a' ha => fun hl => ?_, fun hb => e3 hb⟩
        exact e2 hb a' ha σ' (by simpa using hl)
      · show (List.set (L2.start N [V.ref f]) A.x (some v))[0]? = _
        rw [List.getElem?_set_ne nx0]
        rfl
      · refine mono _ _ _ _ _ (fun _ _ _ h => h) (fun v2 H2 hq => ⟨hq.1, fun p hp => ?_⟩) (hT F1 ms1 H1 t1 S1)
        refine ⟨.ref p, ?_, hq.2 p hp⟩
        have hxl : A.x < N.length := by omega
        show (List.set (List.set (L2.start N [V.ref f]) A.x (some v)) A.x (some (V.ref p)))[A.x]? = _
        rw [List.getElem?_set_self (by rw [List.length_set, hlen]; exact hxl)]
theorem Fin.mono2 {α : Type} {E E' : XK} {fx : Loc} {F : Hp} {ms : List Addr} {H : Hp} {r : Res α} {K K' : α → Loc → Hp → List Addr → Hp → Prop} (h : Fin T E fx F ms H r K) (e : ∀ c d H, E c d H → E' c d H) (k : ∀ a l F' ms' H', K a l F' ms' H' → K' a l F' ms' H') : Fin T E' fx F ms H r K' := by
  cases r with
  | ok a l => exact fun F' ms' H' t S => k _ _ _ _ _ (h F' ms' H' t S)
  | exc c p l => exact fun z F' ms' H' t S => e _ _ _ (h z F' ms' H' t S)
  | bad => exact h
theorem noPs_of {ps : Arguments} (h : noPs ps = true) : ps = ⟨[], [], none, [], [], none, []⟩ := by
  obtain ⟨a, b, c, d, e, f, g⟩ := ps
  cases a <;> cases b <;> cases c <;> cases d <;> cases e <;> cases f <;> cases g <;> first | rfl | exact absurd h Bool.false_ne_true
theorem ask_val {sub : Nat → Nat → Option Bool} {dfs : List Def} {fn : Nat → List W → Loc → Loc → Res W} {g : Nat} {df : Def} {A : Asker} (q : dfs[g]? = some df) (q2 : askOf df = some A) (r : Res W) (fx : Loc) : ask sub dfs fn g r fx = match r with
    | .ok (.d x) l => if noIns x = true then .ok (.d (.tup [A.told, x])) l else .bad
    | .exc c' p l => match sub c' A.c with
      | some true => (match outS A.e (List.replicate df.nl none) l (evSs ⟨fn, sub, fun _ _ _ => .bad⟩ fx A.suite ((List.replicate df.nl none).set A.e (some (.d (.ins c' [p])))) l) with
        | .nx ρ l => (ret (slotV ρ A.x) l).bind fun w l => match w with
          | .d x => .ok (.d x) l
          | .r _ => .bad
        | _ => .bad)
      | _ => .bad
    | _ => .bad := by
  unfold ask
  rw [q]
  dsimp only
  unfold askR
  rw [q2] <;> rfl
/-- g(lambda: body) -/
theorem ask_ok (ha : T.ask = true) (hh : T.hot = false) : AskOk T k (ask T.sub T.dfs (Vx.call T.sub T.dfs k)) := by
  intro g body X sc Wx fx x p lpos pos ps lb scope C hg hf hl hp hB
  have ev : ∀ ρ l, evE (cfA T k (ask T.sub T.dfs (Vx.call T.sub T.dfs k))) fx (.ask g body) ρ l = ask T.sub T.dfs (Vx.call T.sub T.dfs k) g (evE (cfA T k (ask T.sub T.dfs (Vx.call T.sub T.dfs k))) fx body ρ l) fx := fun _ _ => rfl
  have none_case : (∀ r fx', ask T.sub T.dfs (Vx.call T.sub T.dfs k) g r fx' = .bad) → PE X (.Call (.Name x p) [.Lambda ps lb scope lpos] [] pos) (tE T Wx fx (evE (cfA T k (ask T.sub T.dfs (Vx.call T.sub T.dfs k))) fx (.ask g body))) := fun hb => ⟨fun pins s σ H Q I ⟨F, ms, ρ, l, S, E, h⟩ => by
    rw [ev, hb] at h
    exact h.elim⟩
  cases q : T.dfs[g]? with
  | none => exact none_case fun r fx' => by unfold ask; rw [q]
  | some df =>
    cases q2 : askOf df with
    | none => exact none_case fun r fx' => by unfold ask; rw [q]; dsimp only; unfold askR; rw [q2]
    | some A =>
      obtain ⟨st, N, FD, pl, SC, hps, hnl, hok⟩ := C.facts.df g x df hf q
      have hb := hok A q2
      obtain ⟨nx0, hnp, nx1, ne1, nt⟩ := askOf_ne q2
      obtain ⟨y1, p1, v1, p2, y2, p3, k1, j1, p4, a, p5, p6, n1, p7, p8, cx, p9, en, s0, sr, p10, p11, y3, p12, p13, eb, h1, h2, h3, h4, h5, h6, h7, h8, h9, h10, h11, h12, h13⟩ := okAsk_of hb
      obtain ⟨oc, od, dV, kV, doc, pm, an, cdv, ct, osl, hfd, lk, hcd, _, _⟩ := FD.ex
      obtain ⟨mg, mk, mb⟩ := C.facts.gl g x hf
      obtain ⟨g1, g2⟩ := gl_of C.sc hg
      obtain ⟨⟨c, P, TB, hcode, hmT, hu⟩, hroom⟩ := C.lam ha
      obtain ⟨h0, db0, dc0⟩ : N[0]? = some a ∧ (a == ("__debug__" : Str)) = false ∧ (a == ("__classdict__" : Str)) = false := by
        unfold okV at h8
        simp only [Bool.and_eq_true, decide_eq_true_eq, Bool.not_eq_true'] at h8
        exact ⟨h8.1.1.1, h8.1.2, h8.2⟩
      have hpa : T.ps g = [a] := by
        rw [hps, hnp]
        cases N with
        | nil => simp at h0
        | cons y r => simp at h0; subst h0; rfl
      rw [hpa] at SC mb
      have vis0 : Vis (defScope st) a := SC.par a List.mem_cons_self |>.elim .inl fun z => .inr (.inl z)
      rw [hfd] at lk mb
      obtain ⟨v0, _, hv0r⟩ := const_rep (F := fun _ => none) (ms := []) (v := .non) (j := j1) (pos := p4) (X := X) h7
      have hv0 : ∀ (Y : Cx) (k1 : Const) (j : Nat) (p : Pos), okC A.told k1 = true → PE Y (.Constant k1 j p) (tC v0) := by
        intro Y k2 j p hk
        obtain ⟨v2, hp2, hr2⟩ := const_rep (F := fun _ => none) (ms := []) (v := .non) (j := j) (pos := p) (X := Y) hk
        have e1 := hv0r sp (fun _ => none)
        have e2 := hr2 sp (fun _ => none)
        have : v2 = v0 := by
          cases hA : A.told <;> rw [hA] at e1 e2 hk
          · exact (show v2 = V.non from e2).trans (show v0 = V.non from e1).symm
          · exact (show v2 = V.bl _ from e2).trans (show v0 = V.bl _ from e1).symm
          · exact (show v2 = V.int _ from e2).trans (show v0 = V.int _ from e1).symm
          · exact (show v2 = V.str _ from e2).trans (show v0 = V.str _ from e1).symm
          all_goals (cases k2 <;> exact absurd hk Bool.false_ne_true)
        subst this
        exact hp2
      have z := C.cold hh
      have L : LamX.LamS X.env.scope scope := LamX.lamS_by (by rw [C.sc]; exact hl)
      have eps := noPs_of hp
      subst eps
      have facts' := C.facts.plain hh
      have hG := ask_gives (fx := fx) (A := A) (N := N) (x := x) (sg := defScope st) (g := T.fa g) (cdv := cdv) (b := defBody st) (a := a) (v0 := v0) (df := df) C hh hroom SC hnl q2 hb h0 hv0
      refine pe_mono (LamX.pe_lamcall (T := Tbs.T) (k := 4 * k + 1) (t := fun E => tE T.plain (fun cls d _ H => E cls d H) fx (evE (cfA T k (ask T.sub T.dfs (Vx.call T.sub T.dfs k))) fx body)) g1 mg mk lk hcd mb SC h0 vis0 hG TB hcode hmT hu hroom L rfl (fun q cl pm cv ctv => rfl) (fun A' outer s H E f c' hr => ?_) g2 db0 dc0) ?_
      · refine hB _ _ rfl ⟨facts', rfl, C.nd, fun _ => rfl, fun _ => hr, (show (A'.deeper (LamX.lamEnv X scope s.heap.objs.size f c')).units + 100 < cLine from by have := hr.un; omega), fun _ => takes_of rfl rfl rfl rfl, fun _ => z, (fun w => Bool.noConfusion (show false = true from w)), (fun w => Bool.noConfusion (show false = true from w))⟩
      · intro σ H Q ⟨F, ms, ρ, l, S, E, h⟩
        refine ⟨S.tabs, fun H1 eN T1 => ⟨fun E1 E2 H Q1 Q2 e1 e2 ⟨F0, ms0, ρ0, l0, S0, En0, h0⟩ => ⟨F0, ms0, ρ0, l0, S0, En0, h0.mono2 e1 fun _ _ _ _ _ w v pv => e2 _ _ (w v pv)⟩, F, ms, l, S.tab eN T1, fun F1 ms1 H2 t1 S1 => ?_⟩⟩
        have t0 := (Stp.tab (F := F) (ms := ms) eN).trans t1
        refine ⟨F1, ms1, ρ, l, S1, E.stp t0, ?_⟩
        rw [ev] at h
        rw [ask_val q q2] at h
        cases r : evE (cfA T k (ask T.sub T.dfs (Vx.call T.sub T.dfs k))) fx body ρ l with
        | bad => rw [r] at h; exact h.elim
        | ok w l1 =>
          rw [r] at h
          cases w with
          | r n => exact h.elim
          | d x0 =>
            dsimp only at h
            split at h
            · intro F3 ms3 H3 t3 S3 v pv
              refine ⟨by rw [line_eq]; simp, fun p hp => ?_⟩
              have tl := Stp.lay (o := .tup [v0, v]) S3 hp
              refine h _ ms3 _ ((t0.trans t3).trans tl) (S3.lay hp) _ ?_
              show Rep _ _ (.tup [A.told, x0])
              unfold Rep
              exact ⟨p, _, rfl, upd_same, RepL.cons (hv0r sp _) (RepL.cons (Rep.mono tl.sub _ _ pv) RepL.nil)⟩
            · exact h.elim
        | exc c' pp l1 =>
          rw [r] at h
          dsimp only at h
          intro ep F3 ms3 H3 t3 S3
          cases qs : T.sub c' A.c with
          | none => rw [qs] at h; exact h.elim
          | some bb =>
            rw [qs] at h
            cases bb with
            | false => exact h.elim
            | true =>
              refine ⟨true, C.facts.exm c' A.c true qs, fun _ a' ha' σ' hl' => ?_, fun w => nomatch w⟩
              have E0 : EnvR F3 ms3 (List.replicate df.nl none) σ' := ⟨by simp [hnl, hl'], fun i w e => by
                rw [List.getElem?_replicate] at e
                split at e <;> cases e⟩
              have pe : @Rp (svE T a' (.ref (T.ca c')) none) F3 ms3 (.ref a') (.d (.ins c' [pp])) := by
                show @Rep (svE T a' (.ref (T.ca c')) none) F3 (.ref a') (.ins c' [pp])
                unfold Rep
                exact ⟨a', rfl, rfl, rfl, rfl, C.facts.sbn c' A.c true qs⟩
              have Eu := @EnvR.set _ (svE T a' (.ref (T.ca c')) none) _ _ _ _ _ _ (@EnvR.up _ sp (svE T a' (.ref (T.ca c')) none) _ _ _ _ z E0) pe A.e
              refine ⟨F3, ms3, _, l1, @SRel.up _ sp (svE T a' (.ref (T.ca c')) none) _ _ _ _ z S3, Eu, ?_⟩
              refine out_suite (X := X) (T := T) (Wx := Wx) (F0 := F) (ms0 := ms) (H0 := H) (D := askD A Q) z (t0.trans t3) S3 E0 (σ'.set A.e (some (.ref a'))) (by simp) ?_
              dsimp only at h
              cases ro : outS A.e (List.replicate df.nl none) l1 (evSs (cfA T k fun _ _ _ => .bad) fx A.suite ((List.replicate df.nl none).set A.e (some (.d (.ins c' [pp])))) l1) with
              | nx ρ3 l3 =>
                rw [ro] at h
                dsimp only at h
                cases rs : slotV ρ3 A.x with
                | none => rw [rs] at h; exact h.elim
                | some w =>
                  rw [rs] at h
                  simp only [ret_some, Res.bind_ok] at h
                  cases w with
                  | r n => exact h.elim
                  | d x3 =>
                    intro F4 ms4 H4 σ4 t4 S4 E4
                    have es : ρ3[A.x]? = some (some (.d x3)) := by
                      unfold slotV at rs
                      split at rs
                      · rename_i u eu
                        cases rs
                        exact eu
                      · cases rs
                    obtain ⟨v, ev4, rv⟩ := E4.at_ _ _ es
                    exact ⟨v, ev4, h F4 ms4 H4 t4 S4 v rv⟩
              | rt w l3 => rw [ro] at h; exact h.elim
              | bk ρ3 l3 => rw [ro] at h; exact h.elim
              | ct ρ3 l3 => rw [ro] at h; exact h.elim
              | exc c2 p2 ρ3 l3 => rw [ro] at h; exact h.elim
              | bad => rw [ro] at h; exact h.elim
end
end Vx

set_option maxHeartbeats 4000000
/-! ### the program -/
namespace Vx
open PySem PySem.Spec PyProof.Rows L2
variable [tb : Tbs]
instance coldSpv : Spv := noSpv
/-- a printed program -/
structure Pg where
  dfs : List Def
  nm : List Str
  N : List (List Str)
  st : List Stmt
  cn : List Str
  con : List (Str × D)
  sub : List (Nat × Nat × Bool)
  /-- the defs that hand lambdas -/
  lam : List Nat := []
def noFd : FuncData := PySem.W.fnOf "" "" (defArgs (.Pass ⟨0, 0, 0, 0⟩)) [] (defScope (.Pass ⟨0, 0, 0, 0⟩)) .none .none .none .none none .none .none
def Pg.ps (p : Pg) (f : Nat) : List Str := match p.dfs[f]? with
  | some df => (p.N.getD f []).take df.np
  | none => []
def Pg.subF (p : Pg) (c c' : Nat) : Option Bool := (p.sub.find? fun q => q.1 == c && q.2.1 == c').map (·.2.2)
def Pg.tab (p : Pg) (K : PySem.W.Frag) (fd : Nat → FuncData) : Tab where
  dfs := p.dfs
  sub := p.subF
  nm := p.nm
  ps := p.ps
  con := fun x => p.con.lookup x
  cn := p.cn
  fa := fun f => He.ga K (p.nm.getD f "")
  fd := fd
  ca := fun c => He.ga K (p.cn.getD c "")
def frees : List Str := ["len", "abs", "int", "isinstance", "range", "str", "bool", "list", "tuple", "ValueError"]
def mkD (x : Str) (s : Stmt) : He.DefD := ⟨(x, none), x, x, defArgs s, defBody s, defScope s, [], []⟩
def conFa : Str × D → He.Fa
  | (x, .int i) => .int x i
  | (x, .str z) => .str x (sx z)
  | (x, _) => .glo x
def Pg.fns (p : Pg) : List He.DefD := (p.nm.zip p.st).map fun q => mkD q.1 q.2
def Pg.fas (p : Pg) : List He.Fa := p.nm.map He.Fa.glo ++ (p.cn.map He.Fa.glo ++ (frees.map He.Fa.free ++ (p.cn.map He.Fa.exc ++ (p.con.map conFa ++ p.sub.map fun q => He.Fa.exm (p.cn.getD q.1 "") (p.cn.getD q.2.1 "") q.2.2))))
/-! the checks -/
def scopeB (N P : List Str) (sc : Scope) : Bool :=
  decide (sc.kind = .function) && !sc.isCoroutine && !sc.isGenerator && decide N.Nodup && decide (N.take P.length = P) && P.all (fun x => decide (sc.names.lookup x = some .local) || decide (sc.names.lookup x = some .cell)) && sc.names.all fun y => decide (y.2 ≠ .free)
theorem scopeB_ok {N P : List Str} {sc : Scope} (h : scopeB N P sc = true) : FnScope N P sc := by
  obtain ⟨h123456, h7⟩ := and2 h
  obtain ⟨h12345, h6⟩ := and2 h123456
  obtain ⟨h1234, h5⟩ := and2 h12345
  obtain ⟨h123, h4⟩ := and2 h1234
  obtain ⟨h12, h3⟩ := and2 h123
  obtain ⟨h1, h2⟩ := and2 h12
  refine ⟨of_decide_eq_true h1, by simpa using h2, by simpa using h3, of_decide_eq_true h4, of_decide_eq_true h5, fun x hx => ?_, fun y hy => ?_⟩
  · have := List.all_eq_true.mp h6 x hx
    simpa using this
  · exact of_decide_eq_true (List.all_eq_true.mp h7 y hy)
/-- one def -/
def chkA (T : Tab) (df : Def) (N : List Str) (s : Stmt) : Bool := match askOf df with
  | some A => okAsk T N (defScope s) A (defBody s)
  | none => true
def chkD (T : Tab) (b : Bool) (df : Def) (N : List Str) (s : Stmt) : Bool := scopeB N (N.take df.np) (defScope s) && decide (df.nl = N.length) && Nat.ble df.np N.length && okSs { T with ask := b } N (defScope s) df.body (defBody s) && chkA T df N s
def chkAll (T : Tab) (lam : List Nat) : Nat → List Def → List (List Str) → List Stmt → Bool
  | _, [], [], [] => true
  | f, df :: dfs, N :: Ns, s :: ss => chkD T (lam.contains f) df N s && chkAll T lam (f + 1) dfs Ns ss
  | _, _, _, _ => false
theorem chkAll_at {T : Tab} {lam : List Nat} : ∀ {g : Nat} {dfs : List Def} {Ns : List (List Str)} {ss : List Stmt}, chkAll T lam g dfs Ns ss = true → dfs.length = ss.length ∧ ∀ (f : Nat) (s : Stmt), ss[f]? = some s → ∃ df N, dfs[f]? = some df ∧ Ns[f]? = some N ∧ chkD T (lam.contains (g + f)) df N s = true
  | _, [], [], [], _ => ⟨rfl, fun f s e => by simp at e⟩
  | _, [], [], _ :: _, h => absurd h Bool.false_ne_true
  | _, [], _ :: _, _, h => absurd h Bool.false_ne_true
  | _, _ :: _, [], _, h => absurd h Bool.false_ne_true
  | _, _ :: _, _ :: _, [], h => absurd h Bool.false_ne_true
  | g, df :: dfs, N :: Ns, s :: ss, h => by
    obtain ⟨h1, h2⟩ := and2 (show (chkD T (lam.contains g) df N s && chkAll T lam (g + 1) dfs Ns ss) = true from h)
    obtain ⟨i1, i2⟩ := chkAll_at h2
    refine ⟨by simp [i1], fun f s' e => ?_⟩
    cases f with
    | zero => cases e; exact ⟨df, N, rfl, rfl, h1⟩
    | succ f =>
      have := i2 f s' e
      have e1 : g + 1 + f = g + (f + 1) := by omega
      rw [e1] at this
      exact this
/-- what a checked def gives -/
structure Chk (T : Tab) (b : Bool) (df : Def) (N : List Str) (s : Stmt) : Prop where
  sc : FnScope N (N.take df.np) (defScope s)
  nl : df.nl = N.length
  np : df.np ≤ N.length
  body : okSs { T with ask := b } N (defScope s) df.body (defBody s) = true
  ask : ∀ A, askOf df = some A → okAsk T N (defScope s) A (defBody s) = true
theorem chkD_ok {T : Tab} {b : Bool} {df : Def} {N : List Str} {s : Stmt} (h : chkD T b df N s = true) : Chk T b df N s := by
  obtain ⟨h1234, h5⟩ := and2 h
  obtain ⟨h123, h4⟩ := and2 h1234
  obtain ⟨h12, h3⟩ := and2 h123
  obtain ⟨h1, h2⟩ := and2 h12
  refine ⟨scopeB_ok h1, of_decide_eq_true h2, Nat.le_of_ble_eq_true h3, h4, fun A e => ?_⟩
  unfold chkA at h5
  rw [e] at h5
  exact h5
def conB : List (Str × D) → Bool
  | [] => true
  | (_, .int _) :: r => conB r
  | (_, .str _) :: r => conB r
  | _ => false
theorem conB_at : ∀ {l : List (Str × D)} {x : Str} {d : D}, conB l = true → l.lookup x = some d → (x, d) ∈ l ∧ ((∃ i, d = .int i) ∨ ∃ z, d = .str z)
  | [], x, d, h, e => by cases e
  | (y, c) :: r, x, d, h, e => by
    have hc : ((∃ i, c = .int i) ∨ ∃ z, c = .str z) ∧ conB r = true := by
      cases c <;> first | (exact absurd h Bool.false_ne_true) | skip
      · exact ⟨.inl ⟨_, rfl⟩, h⟩
      · exact ⟨.inr ⟨_, rfl⟩, h⟩
    rw [List.lookup_cons] at e
    split at e
    · rename_i q
      cases e
      have q' : x = y := by simpa using q
      subst q'
      exact ⟨List.mem_cons_self, hc.1⟩
    · obtain ⟨i1, i2⟩ := conB_at hc.2 e
      exact ⟨List.mem_cons_of_mem _ i1, i2⟩
theorem has_fact {fa : List He.Fa} {fn : List He.DefD} {K : PySem.W.Frag} (c : He.SaysD fa fn K) {f : He.Fa} (h : f ∈ fa) : f.ok K = true := by
  obtain ⟨i, hi, e⟩ := List.getElem_of_mem h
  exact c.fact i (f := f) (by rw [List.getElem?_eq_getElem hi, e])
theorem has_def {fa : List He.Fa} {fn : List He.DefD} {K : PySem.W.Frag} (c : He.SaysD fa fn K) {d : He.DefD} (h : d ∈ fn) : ∃ fd, FunD K d.name d.qual d.params d.body d.scope (d.dvs K) (d.kws K) (He.fAd K d.at_) fd := by
  obtain ⟨i, hi, e⟩ := List.getElem_of_mem h
  exact c.def_ i (d := d) (by rw [List.getElem?_eq_getElem hi, e])
theorem zip_at {α β : Type} {l : List α} {r : List β} {i : Nat} {a : α} {b : β} (h1 : l[i]? = some a) (h2 : r[i]? = some b) : (a, b) ∈ l.zip r := by
  apply List.mem_of_getElem? (i := i)
  rw [List.getElem?_zip_eq_some]
  exact ⟨h1, h2⟩
theorem startR {F : Hp} {ms : List Addr} {vs : List V} {ws : List W} {n : Nat} {N : List Str} (p : RpL F ms vs ws) (hn : n = N.length) : EnvR F ms (startE n ws) (L2.start N vs) where
  len := by
    have := p.len
    simp [startE, L2.start, hn, this]
  at_ := fun i w e => by
    have hl := p.len
    by_cases h : i < ws.length
    · rw [startE, List.getElem?_append_left (by simpa using h)] at e
      rw [List.getElem?_map] at e
      cases q : ws[i]? with
      | none => rw [q] at e; cases e
      | some w' =>
        rw [q] at e
        cases e
        obtain ⟨v, hv, r⟩ := p.get q
        refine ⟨v, ?_, r⟩
        rw [L2.start, List.getElem?_append_left (by simp [hl, h]), List.getElem?_map, hv]
        rfl
    · rw [startE, List.getElem?_append_right (by simp; omega), List.getElem?_replicate] at e
      split at e <;> cases e
theorem fin_out {T : Tab} {E : XK} {fx : Loc} {F : Hp} {ms : List Addr} {H : Hp} {o : Out} {Q : VK} (h : Fin T E fx F ms H o.res (kE Q)) : FinO T (fun c d _ H => E c d H) fx F ms H o { nx := fun _ H' => Q .non H', rt := Q } := by
  cases o with
  | nx ρ l => exact fun F' ms' H' σ t S E => h F' ms' H' t S .non rfl
  | rt w l => exact fun F' ms' H' v t S p => h F' ms' H' t S v p
  | exc c p ρ l => exact fun e F' ms' H' σ t S E => h e F' ms' H' t S
  | bk ρ l => exact h.elim
  | ct ρ l => exact h.elim
  | bad => exact h.elim
section
variable {P : Program} {w : World} {K : PySem.W.Frag} {mg : Str → Option Value} {base : Heap} {p : Pg} {fd : Nat → FuncData}
/-- what holds of the program whatever the depth -/
structure Stat (p : Pg) (K : PySem.W.Frag) (mg : Str → Option Value) (fd : Nat → FuncData) : Prop where
  fun_ : ∀ (f : Nat) (x : Str) (s : Stmt), p.nm[f]? = some x → p.st[f]? = some s → FunD K x x (defArgs s) (defBody s) (defScope s) [] [] (He.ga K x) (fd f)
  plain : ∀ (f : Nat) (s : Stmt), p.st[f]? = some s → plainB s (p.ps f)
  len : p.nm.length = p.st.length
  chk : chkAll (p.tab K fd) p.lam 0 p.dfs p.N p.st = true
  glo : ∀ (f : Nat) (x : Str), p.nm[f]? = some x → mg x = some (.ref (He.ga K x))
  con : ∀ (x : Str) (d : D), p.con.lookup x = some d → ∃ u v, mg x = some u ∧ RelV v u ∧ ∀ (sp : Spv) (F : Hp), @Rep sp F v d
  fr : ∀ x ∈ frees, mg x = none
  exc : ∀ (c : Nat) (x : Str), p.cn[c]? = some x → mg x = some (.ref (He.ga K x)) ∧ PySem.W.excIn K (He.ga K x) He.veBase "ValueError.__new__" = true ∧ PySem.W.keepIn K (.ref (He.ga K x)) = true ∧
    PySem.W.subIn K (.ref (He.ga K x)) (.type "BaseException") = some true ∧ PySem.W.typeIn K (.ref (He.ga K x)) = some (.type "type")
  xc : ∀ (c : Nat) (x : Str), p.cn[c]? = some x → ExcC K (He.ga K x)
  kit : ∀ (c c' : Nat) (b : Bool), p.subF c c' = some b → PySem.W.kitOne K (.ref (He.ga K (p.cn.getD c ""))) (.ref (He.ga K (p.cn.getD c' ""))) = some b
  sbn : ∀ (c c' : Nat) (b : Bool), p.subF c c' = some b → ∃ x, p.cn[c]? = some x
  exm : ∀ (c c' : Nat) (b : Bool), p.subF c c' = some b → PySem.W.exmOne K (.ref (He.ga K (p.cn.getD c ""))) (.ref (He.ga K (p.cn.getD c' ""))) = some b
theorem getD_of {α : Type} {l : List α} {i : Nat} {a d : α} (h : l[i]? = some a) : l.getD i d = a := by
  rw [List.getD_eq_getElem?_getD, h]; rfl
/-- what a def is -/
theorem Stat.at_ (S : Stat p K mg fd) {f : Nat} {x : Str} (h : p.nm[f]? = some x) : ∃ s df N, p.st[f]? = some s ∧ p.dfs[f]? = some df ∧ FunD K x x (defArgs s) (defBody s) (defScope s) [] [] (He.ga K x) (fd f) ∧ plainB s (p.ps f) ∧ p.ps f = N.take df.np ∧ Chk (p.tab K fd) (p.lam.contains f) df N s := by
  have hl : f < p.st.length := by
    rw [← S.len]
    exact (List.getElem?_eq_some_iff.mp h).1
  have hs : p.st[f]? = some (p.st[f]'hl) := List.getElem?_eq_getElem hl
  obtain ⟨c1, c2⟩ := chkAll_at S.chk
  obtain ⟨df, N, e1, e2, e3⟩ := c2 f _ hs
  rw [Nat.zero_add] at e3
  refine ⟨_, df, N, hs, e1, S.fun_ f x _ h hs, S.plain f _ hs, ?_, chkD_ok e3⟩
  unfold Pg.ps
  rw [e1]
  dsimp only
  rw [getD_of e2]
theorem Stat.facts (S : Stat p K mg fd) (k : Nat) (b : Bool) (ih : ∀ (f : Nat) (x : Str), p.nm[f]? = some x → FnOk P w K mg base (L2.CX P w) (4 * k + 1) (He.ga K x) (fd f) (p.ps f) (spF (p.tab K fd) k f)) : Facts { p.tab K fd with ask := b } P w K mg base k where
  fn := fun _ f x h => by
    have e : (p.tab K fd).fa f = He.ga K x := congrArg (He.ga K) (getD_of h)
    show FnOk P w K mg base (L2.CX P w) (4 * k + 1) ((p.tab K fd).fa f) (fd f) (p.ps f) (spF (p.tab K fd) k f)
    rw [e]
    exact ih f x h
  gl := fun f x h => by
    have e : (p.tab K fd).fa f = He.ga K x := congrArg (He.ga K) (getD_of h)
    show mg x = some (.ref ((p.tab K fd).fa f)) ∧ PySem.W.keepIn K (.ref ((p.tab K fd).fa f)) = true ∧ Binds K (fd f) (p.ps f) []
    rw [e]
    obtain ⟨s, df, N, hs, e1, F, pl, _, _⟩ := S.at_ h
    exact ⟨S.glo f x h, F.kp, F.bindsN fun kV doc pm an cdv ct us hu => pl _ _ _ _ kV doc pm an cdv ct us hu⟩
  con := S.con
  fr := S.fr
  exc := fun c x h => by
    have e : (p.tab K fd).ca c = He.ga K x := congrArg (He.ga K) (getD_of h)
    have h2 := S.exc c x h
    rw [← e] at h2
    exact h2
  xc := fun c x h => by
    have e : (p.tab K fd).ca c = He.ga K x := congrArg (He.ga K) (getD_of h)
    have h2 := S.xc c x h
    rw [← e] at h2
    exact h2
  kit := S.kit
  sbn := S.sbn
  df := fun f x d h h' => by
    have e : (p.tab K fd).fa f = He.ga K x := congrArg (He.ga K) (getD_of h)
    obtain ⟨s, df, N, hs, e1, F, pl, e2, C⟩ := S.at_ h
    have h'' : p.dfs[f]? = some d := h'
    rw [e1] at h''
    cases h''
    refine ⟨s, N, ?_, pl, ?_, e2, C.nl, C.ask⟩
    · show FunD K x x (defArgs s) (defBody s) (defScope s) [] [] ((p.tab K fd).fa f) (fd f)
      rw [e]
      exact F
    · show FnScope N (p.ps f) (defScope s)
      rw [e2]
      exact C.sc
  np := fun f df h => by
    have h' : p.dfs[f]? = some df := h
    show df.np = (p.ps f).length
    have hl : f < p.st.length := by
      rw [← (chkAll_at S.chk).1]
      exact (List.getElem?_eq_some_iff.mp h').1
    have hn : f < p.nm.length := by rw [S.len]; exact hl
    obtain ⟨s, df', N, hs, e1, F, pl, e2, C⟩ := S.at_ (List.getElem?_eq_getElem hn)
    rw [h'] at e1
    cases e1
    rw [e2, List.length_take]
    have := C.np
    omega
  exm := S.exm
/-- the tables of the defs that hand lambdas -/
def LamT (p : Pg) (mg : Str → Option Value) (base : Heap) (fd : Nat → FuncData) : Prop := ∀ (f : Nat) (x : Str), p.lam.contains f = true → p.nm[f]? = some x → ∃ c Q : Addr, LamX.TabB base mg c Q ∧ (fd f).code = .ref c ∧ (Q, x ++ ".<locals>." ++ "<lambda>") ∈ Tbs.T ∧ ∀ q ∈ Tbs.T, q.1 = Q → q.2 = x ++ ".<locals>." ++ "<lambda>"
/-- every def keeps its promise -/
theorem Stat.ok (S : Stat p K mg fd) (L : LamT p mg base fd) : ∀ (k f : Nat) (x : Str), p.nm[f]? = some x → FnOk P w K mg base (L2.CX P w) (4 * k + 1) (He.ga K x) (fd f) (p.ps f) (spF (p.tab K fd) k f)
  | 0, f, x, h => by
    have no : ∀ {vs : List V} {H : Hp} {Q : VK} {E : XK}, spF (p.tab K fd) 0 f vs H Q E → False := fun ⟨_, F, ms, fx, l, ws, S, r, z⟩ => z
    exact ⟨fun vs H Q E z => (no z).elim, fun A outer s H args us vs Q E _ _ _ _ z => (no z).elim⟩
  | k + 1, f, x, h => by
    obtain ⟨s, df, N, hs, e1, F, pl, hps, C⟩ := S.at_ h
    have FX := S.facts (P := P) (w := w) (base := base) k (p.lam.contains f) fun g y hy => S.ok L k g y hy
    have hsc := C.sc
    obtain ⟨oc, od, dV, kV, doc, pm, an, cdv, ct, osl, hfd, lk, hcd, _, _⟩ := F.ex
    rw [hps, hfd]
    rw [hfd] at lk
    refine fn_of (k := 4 * k + 4) lk hcd hsc (fun vs H Q E z => ?_) (fun A outer s' H vs Q E hr z => ?_)
    · have := z.1
      have e : (p.tab K fd).ps f = N.take df.np := hps
      rw [e] at this
      exact this
    · obtain ⟨hlen, F0, ms, fx, l, ws, S0, r, fin⟩ := z
      have hc : Vx.call (p.tab K fd).sub (p.tab K fd).dfs (k + 1) f ws fx l = if ws.length = df.np then (evSs (cfK (p.tab K fd).sub (p.tab K fd).dfs k) fx df.body (startE df.nl ws) l).res else .bad := by
        show (match p.dfs[f]? with
          | some df => if ws.length = df.np then (evSs (cfK (p.tab K fd).sub (p.tab K fd).dfs k) fx df.body (startE df.nl ws) l).res else .bad
          | none => .bad) = _
        rw [e1]
      rw [hc] at fin
      split at fin
      · refine ⟨sOf { p.tab K fd with ask := p.lam.contains f } (fun c d _ H => E c d H) fx (evSs (cfK (p.tab K fd).sub (p.tab K fd).dfs k) fx df.body), ?_, F0, ms, startE df.nl ws, l, S0, startR r C.nl, fin_out fin⟩
        refine sndSs (ak := ask (p.tab K fd).sub (p.tab K fd).dfs (Vx.call (p.tab K fd).sub (p.tab K fd).dfs k)) df.body coldSpv { p.tab K fd with ask := p.lam.contains f } (fun ha => ask_ok (T := { p.tab K fd with ask := p.lam.contains f }) ha rfl) _ (defScope s) _ fx _ ⟨FX, rfl, hsc.nd, fun _ => rfl, fun _ => hr.mono (by omega), (show (A.deeper (envOfC x (defScope s) s'.heap.objs.size (He.ga K x) cdv)).units + 100 < cLine from by have := hr.un; omega), fun _ => takes_of rfl rfl rfl rfl, fun _ _ _ _ z => z, (fun z => Bool.noConfusion (show false = true from z)), fun ha => ⟨?_, hr.mono (by omega)⟩⟩ ⟨rfl, rfl, passes_of rfl, rfl, hsc.kind⟩ C.body
        obtain ⟨c, Q', TB, hco, hm, hu⟩ := L f x ha h
        rw [hfd] at hco
        exact ⟨c, Q', TB, hco, hm, hu⟩
      · exact fin.elim
end
end Vx

set_option maxHeartbeats 4000000
/-! ### the end -/
namespace Vx
open PySem PySem.Spec PyProof.Rows L2
/-! a hook whose facts hold no list, no empty table -/
theorem and2' {a b : Bool} (h : (a && b) = true) : a = true ∧ b = true := Bool.and_eq_true_iff.mp h
def notLst (o : PySem.Obj) : Bool := match o.cls with
  | .type n => !(n == "list")
  | _ => true
def okLG (o : PySem.Obj) : Bool := notLst o && !He.emptyTab o
def noLg (g : Addr → Option PySem.Obj) (a : Addr) : Option PySem.Obj := match g a with
  | some o => (match okLG o with
    | true => some o
    | false => none)
  | none => none
theorem noLg_at {g : Addr → Option PySem.Obj} {a : Addr} {o : PySem.Obj} (h : noLg g a = some o) : g a = some o ∧ okLG o = true := by
  unfold noLg at h
  cases q : g a with
  | none => rw [q] at h; cases h
  | some u =>
    rw [q] at h
    dsimp only at h
    cases q2 : okLG u with
    | false => rw [q2] at h; cases h
    | true => rw [q2] at h; cases h; exact ⟨rfl, q2⟩
/-- more facts: of the exception classes, of pairs of them -/
def excB (K : PySem.W.Frag) (x : Str) : Bool :=
  decide (PySem.W.findIn K (.ref (He.ga K x)) "__getattribute__" = some (some (.builtin "BaseException.__getattribute__"))) && decide (PySem.W.findIn K (.ref (He.ga K x)) "__getattr__" = some none) &&
  decide (PySem.W.subIn K (.ref (He.ga K x)) (.type "BaseException") = some true) && PySem.W.hasDictIn K (He.ga K x) && decide (PySem.W.findIn K (.ref (He.ga K x)) "__class__" = some (some (.builtin "object.__class__"))) &&
  decide (PySem.W.specialIn K (.builtin "object.__class__") "__get__" = some (some (.builtin "getset_descriptor.__get__"))) && decide (PySem.W.takesIn K (.builtin "object.__class__") = some true) && decide (PySem.W.mroIn K (He.ga K x) (.type "object") = some true)
theorem excB_ok {K : PySem.W.Frag} {x : Str} (h : excB K x = true) : ExcC K (He.ga K x) := by
  unfold excB at h
  simp only [Bool.and_eq_true, decide_eq_true_eq] at h
  obtain ⟨⟨⟨⟨⟨⟨⟨h1, h2⟩, h3⟩, h4⟩, h5⟩, h6⟩, h7⟩, h8⟩ := h
  exact ⟨h1, h2, h3, h4, h5, h6, h7, h8⟩
def kitB (K : PySem.W.Frag) (x y : Str) (b : Bool) : Bool := decide (PySem.W.kitOne K (.ref (He.ga K x)) (.ref (He.ga K y)) = some b)
/-- what else is looked at -/
structure Xt where
  cn : List Str
  kit : List (Str × Str × Bool)
  tf : List He.Defn
def Xt.ok (t : Xt) (K : PySem.W.Frag) : Bool := t.cn.all (excB K) && t.kit.all fun q => kitB K q.1 q.2.1 q.2.2
abbrev AlY : Type := He.AlD × Bool
def obsXK (fa : List He.Fa) (fn : List He.DefD) (t : Xt) (g : Addr → Option PySem.Obj) (K : PySem.W.Frag) : AlY := (He.obsD fa fn K, t.ok K && He.tabsB g t.tf K)
def obsXG (n : Nat) (fa : List He.Fa) (fn : List He.DefD) (t : Xt) (g : Addr → Option PySem.Obj) : AlY := obsXK fa fn t g (He.frG (noLg g) (He.asD g n))
structure SaysY (fa : List He.Fa) (fn : List He.DefD) (t : Xt) (h : Heap) (K : PySem.W.Frag) : Prop where
  kin : K.In h
  d : He.SaysD fa fn K
  nl : ∀ a o, K.lookup a = some o → notLst o = true
  ok : t.ok K = true
  hd : ∀ p ∈ t.tf, PySem.W.codeHdIn K (He.cT K p).1 (He.cT K p).2 = true
  out : ∀ p ∈ t.tf, K.lookup (He.cT K p).2 = none
  empty : ∀ p ∈ t.tf, h.get? (He.cT K p).2 = some { cls := .none, data := .fields #[] }
theorem saysY_of {n : Nat} {fa : List He.Fa} {fn : List He.DefD} {t : Xt} {h : Heap} (e : obsXG n fa fn t h.get? = (He.valD fn, true)) : SaysY fa fn t h (He.frG (noLg h.get?) (He.asD h.get? n)) := by
  have at_ : ∀ {a o}, (He.frG (noLg h.get?) (He.asD h.get? n)).lookup a = some o → h.get? a = some o ∧ okLG o = true := fun z => noLg_at (He.frG_at _ z)
  have e2 : (t.ok (He.frG (noLg h.get?) (He.asD h.get? n)) && He.tabsB h.get? t.tf (He.frG (noLg h.get?) (He.asD h.get? n))) = true := congrArg (fun z : AlY => z.2) e
  obtain ⟨h1, h2⟩ := and2' e2
  have tab : ∀ p ∈ t.tf, PySem.W.codeHdIn (He.frG (noLg h.get?) (He.asD h.get? n)) (He.cT (He.frG (noLg h.get?) (He.asD h.get? n)) p).1 (He.cT (He.frG (noLg h.get?) (He.asD h.get? n)) p).2 = true ∧ h.get? (He.cT (He.frG (noLg h.get?) (He.asD h.get? n)) p).2 = some { cls := .none, data := .fields #[] } := fun p hp => by
    obtain ⟨h3, h4⟩ := and2' (List.all_eq_true.mp h2 p hp)
    refine ⟨h3, ?_⟩
    cases q : h.get? (He.cT (He.frG (noLg h.get?) (He.asD h.get? n)) p).2 with
    | none =>
      rw [q] at h4
      cases h4
    | some o =>
      rw [q] at h4
      rw [He.emptyTab_eq h4]
  refine ⟨fun a o z => (at_ z).1, congrArg (fun z : AlY => z.1) e, fun a o z => (and2' (at_ z).2).1, h1, fun p hp => (tab p hp).1, fun p hp => ?_, fun p hp => (tab p hp).2⟩
  cases q : (He.frG (noLg h.get?) (He.asD h.get? n)).lookup (He.cT (He.frG (noLg h.get?) (He.asD h.get? n)) p).2 with
  | none => rfl
  | some o =>
    exfalso
    obtain ⟨q1, q2⟩ := at_ q
    have q3 := (tab p hp).2
    rw [q1] at q3
    cases q3
    exact absurd q2 (by decide)
def hookX (n : Nat) (fa : List He.Fa) (fn : List He.DefD) (t : Xt) : PySem.W.Hook where
  α := AlY
  obs := fun s => obsXG n fa fn t s.heap.get?
  val := fun _ => (He.valD fn, true)
  says := fun _ h => ∃ K : PySem.W.Frag, SaysY fa fn t h K
  of := fun _ _ e => ⟨_, saysY_of e⟩
  keeps := fun _ _ _ ⟨K, c⟩ k => ⟨K, PySem.W.Frag.In.keeps c.kin k, c.d, c.nl, c.ok, c.hd, c.out, fun p hp => k _ _ (c.empty p hp)⟩
theorem obsXG_eq {n : Nat} {fa : List He.Fa} {fn : List He.DefD} {t : Xt} {g : Addr → Option PySem.Obj} {s : Shared} (h : ∀ a, g a = s.heap.get? a) : obsXG n fa fn t g = (hookX n fa fn t).obs s := by
  have e : g = s.heap.get? := funext h
  rw [e] <;> rfl
theorem cx_no {P : Program} {w : World} (H : Hp) (s : Shared) (e : Value) (s' : Shared) (h : L2.CX P w [] H s (fun _ _ _ => False) e s') : False := by
  obtain ⟨_, _, _, _, _, _, _, _, _, _, _, _, z⟩ := h
  exact z
section
variable [tb : Tbs]
variable {K : PySem.W.Frag} {H : Hp}
/-- the script -/
theorem script_rel (T0 : LamX.Tabs Tbs.T H) {a : Addr} {ns : List Int} (hS : SqL K H a (ns.map V.int)) (nl : ∀ a o, K.lookup a = some o → notLst o = true) : SRel (upd (fun _ => none) a (.lst (ns.map V.int))) [] [] H ∧ RpL (upd (fun _ => none) a (.lst (ns.map V.int))) [] [.ref a] [.d (.lst (ns.map D.int))] := by
  have hR : Rd H a (.lst (ns.map V.int)) := by
    rcases hS with h | ⟨o, its, n, h1, h2, _⟩
    · exact h
    · exfalso
      have := nl a o h1
      unfold notLst at this
      rw [h2] at this
      exact absurd this (by decide)
  refine ⟨⟨rfl, List.nodup_nil, fun b o e => ?_, (fun n a o e => by cases e), fun b o e => ?_, T0⟩, ⟨?_, trivial⟩⟩
  · by_cases q : b = a
    · subst q
      rw [upd_same] at e
      cases e
      exact hR
    · rw [upd_ne q] at e
      cases e
  · by_cases q : b = a
    · subst q
      rw [upd_same] at e
      cases e
      rfl
    · rw [upd_ne q] at e
      cases e
  · show Rep _ (.ref a) (.lst (ns.map D.int))
    unfold Rep
    refine ⟨a, _, rfl, upd_same, ?_⟩
    clear hS hR
    generalize upd (fun _ => none) a (HO.lst (ns.map V.int)) = F
    induction ns with
    | nil => exact RepL.nil
    | cons i r ih => exact RepL.cons rfl ih
end
theorem spF_law [tb : Tbs] {T : Tab} {K : PySem.W.Frag} {k f : Nat} {H : Hp} {a : Addr} {ns : List Int} {l' : Loc} (T0 : LamX.Tabs Tbs.T H) (hl : (T.ps f).length = 1) (hS : SqL K H a (ns.map V.int)) (nl : ∀ a o, K.lookup a = some o → notLst o = true)
    (h : call T.sub T.dfs k f [.d (.lst (ns.map D.int))] [] [] = .ok (.d (.bl true)) l') : spF T k f [.ref a] H (fun v _ => v = .bl true) fun _ _ _ => False := by
  obtain ⟨S, r⟩ := script_rel T0 hS nl
  refine ⟨by rw [hl]; rfl, _, [], [], [], _, S, r, ?_⟩
  rw [h]
  exact fun F' ms' H' t S' v p => p
theorem subF_mem {p : Pg} {c c' : Nat} {b : Bool} (h : p.subF c c' = some b) : (c, c', b) ∈ p.sub := by
  unfold Pg.subF at h
  cases q : p.sub.find? (fun q => q.1 == c && q.2.1 == c') with
  | none => rw [q] at h; cases h
  | some r =>
    rw [q] at h
    cases h
    have h1 := List.find?_some q
    have h2 := List.mem_of_find?_eq_some q
    simp only [Bool.and_eq_true, beq_iff_eq] at h1
    obtain ⟨a, b, d⟩ := r
    obtain ⟨rfl, rfl⟩ := h1
    exact h2
def plainAll : List Stmt → List (List Str) → Prop
  | [], _ => True
  | _, [] => False
  | s :: ss, ps :: r => plainB s ps ∧ plainAll ss r
theorem plainAll_at : ∀ {ss : List Stmt} {ps : List (List Str)}, plainAll ss ps → ∀ (f : Nat) (s : Stmt), ss[f]? = some s → plainB s (ps.getD f [])
  | [], _, _, f, s, e => by simp at e
  | _ :: _, [], h, _, _, _ => h.elim
  | s :: ss, p :: ps, h, f, s', e => by
    cases f with
    | zero => cases e; exact h.1
    | succ f => exact plainAll_at h.2 f s' e
theorem plain_of {p : Pg} {ps : List (List Str)} (h : plainAll p.st ps) (e : ∀ f, f < p.st.length → p.ps f = ps.getD f []) (f : Nat) (s : Stmt) (q : p.st[f]? = some s) : plainB s (p.ps f) := by
  rw [e f (List.getElem?_eq_some_iff.mp q).1]
  exact plainAll_at h f s q
def Pg.kitL (p : Pg) : List (Str × Str × Bool) := p.sub.map fun q => (p.cn.getD q.1 "", p.cn.getD q.2.1 "", q.2.2)
def Pg.xt (p : Pg) : Xt := ⟨p.cn, p.kitL, p.lam.map fun f => (p.nm.getD f "", none)⟩
def subB (p : Pg) : Bool := p.sub.all fun q => Nat.blt q.1 p.cn.length
/-- at most one def hands lambdas -/
def lamB (p : Pg) : Bool := match p.lam with
  | [] => true
  | [f] => Nat.blt f p.nm.length
  | _ => false
theorem Pg.end_ {p : Pg} {l : PySem.W.OpenLaw} {q : Program} {loose : List Str} {XP : (Str → Option Value) → Heap → Prop} {d : DefRec} {nh n k f : Nat} {x : Str} (hn : l.most = some n) (hn2 : n ≤ sizeLine) (hdf : d.params.defaults = []) (hr : Room (4 * k + 1) callerA)
    (hname : d.name = ("law" : Str)) (hf : p.nm[f]? = some ("law" : Str)) (hx : p.ps f = [x]) (hpl : ∀ (f : Nat) (s : Stmt), p.st[f]? = some s → plainB s (p.ps f)) (hlen : p.nm.length = p.st.length)
    (hchk : ∀ (K : PySem.W.Frag) (fd : Nat → FuncData), chkAll (p.tab K fd) p.lam 0 p.dfs p.N p.st = true) (hcon : conB p.con = true) (hsub : subB p = true) (hlam : lamB p = true)
    (hlaw : ∀ ns : List Int, ns.length ≤ n → (∀ z ∈ ns, Builtin.Int.intBits z ≤ 1048576) → ∃ l', call p.subF p.dfs k f [.d (.lst (ns.map D.int))] [] [] = .ok (.d (.bl true)) l') :
    PySem.W.WalkO q loose XP (hookX nh p.fas p.fns p.xt).says l.row.toRowW d [] (fun f vs => PySem.call f vs) := by
  refine LamX.walk_ofTsE (CX := fun w => L2.CX l.prog w) (x := x) (k := 4 * k + 1) hn hn2 hdf hr ?_ (fun w H s e s' z => cx_no H s e s' z)
  intro w mg fa h Y G hmg0
  letI tb0 : Tbs := ⟨[]⟩
  obtain ⟨K, KX, c, nl, cok, chd, cout, cem⟩ := Y
  rw [hname] at hmg0
  have defs : ∀ (f : Nat) (x : Str) (s : Stmt), p.nm[f]? = some x → p.st[f]? = some s → ∃ fd, FunD K x x (defArgs s) (defBody s) (defScope s) [] [] (He.ga K x) fd := fun f x s h1 h2 =>
    has_def (d := mkD x s) c (List.mem_map.mpr ⟨(x, s), zip_at h1 h2, rfl⟩)
  have ex : ∀ f : Nat, ∃ fd : FuncData, ∀ (x : Str) (s : Stmt), p.nm[f]? = some x → p.st[f]? = some s → FunD K x x (defArgs s) (defBody s) (defScope s) [] [] (He.ga K x) fd := fun f => by
    cases h1 : p.nm[f]? with
    | none => exact ⟨noFd, fun x s e => nomatch e⟩
    | some x =>
      cases h2 : p.st[f]? with
      | none => exact ⟨noFd, fun x s _ e => nomatch e⟩
      | some s =>
        obtain ⟨fd, F⟩ := defs f x s h1 h2
        exact ⟨fd, fun x' s' e1 e2 => by cases e1; cases e2; exact F⟩
  let fd : Nat → FuncData := fun f => Classical.choose (ex f)
  have hfd : ∀ (f : Nat) (x : Str) (s : Stmt), p.nm[f]? = some x → p.st[f]? = some s → FunD K x x (defArgs s) (defBody s) (defScope s) [] [] (He.ga K x) (fd f) := fun f => Classical.choose_spec (ex f)
  have fa_ : ∀ {g : He.Fa}, g ∈ p.fas → g.ok K = true := fun h => has_fact c h
  obtain ⟨ok1, ok2⟩ := and2' cok
  have S : Stat p K mg fd := {
    fun_ := hfd
    plain := hpl
    len := hlen
    chk := hchk K fd
    glo := fun f x e => He.glo_ok KX G (fa_ (List.mem_append_left _ (List.mem_map.mpr ⟨x, List.mem_of_getElem? e, rfl⟩)))
    con := fun x d e => by
      obtain ⟨m, hd⟩ := conB_at hcon e
      have hm : conFa (x, d) ∈ p.fas := List.mem_append_right _ (List.mem_append_right _ (List.mem_append_right _ (List.mem_append_right _ (List.mem_append_left _ (List.mem_map.mpr ⟨_, m, rfl⟩)))))
      rcases hd with ⟨i, rfl⟩ | ⟨z, rfl⟩
      · obtain ⟨t, e⟩ := He.int_ok KX G (fa_ hm)
        exact ⟨_, .int i, e, ⟨t, rfl⟩, fun _ F => rfl⟩
      · obtain ⟨t, e⟩ := He.str_ok KX G (fa_ hm)
        exact ⟨_, .str (sx z), e, ⟨t, rfl⟩, fun _ F => rfl⟩
    fr := fun x hx => He.free_ok KX G (fa_ (List.mem_append_right _ (List.mem_append_right _ (List.mem_append_left _ (List.mem_map.mpr ⟨x, hx, rfl⟩)))))
    exc := fun c x e => by
      have m := List.mem_of_getElem? e
      have h1 := He.glo_ok KX G (fa_ (g := .glo x) (List.mem_append_right _ (List.mem_append_left _ (List.mem_map.mpr ⟨x, m, rfl⟩))))
      obtain ⟨h2, h3, h4, h5⟩ := He.exc_ok (fa_ (g := .exc x) (List.mem_append_right _ (List.mem_append_right _ (List.mem_append_right _ (List.mem_append_left _ (List.mem_map.mpr ⟨x, m, rfl⟩))))))
      exact ⟨h1, h2, h3, h4, h5⟩
    xc := fun c x e => excB_ok (List.all_eq_true.mp ok1 x (List.mem_of_getElem? e))
    kit := fun c c' b e => of_decide_eq_true (List.all_eq_true.mp ok2 _ (List.mem_map.mpr ⟨_, subF_mem e, rfl⟩))
    sbn := fun c c' b e => by
      have h1 := List.all_eq_true.mp hsub _ (subF_mem e)
      have h2 : c < p.cn.length := by simpa [Nat.blt_eq] using h1
      exact ⟨_, List.getElem?_eq_getElem h2⟩
    exm := fun c c' b e => He.exm_ok (fa_ (List.mem_append_right _ (List.mem_append_right _ (List.mem_append_right _ (List.mem_append_right _ (List.mem_append_right _ (List.mem_map.mpr ⟨_, subF_mem e, rfl⟩))))))) }
  have hfa : fa = He.ga K ("law" : Str) := by
    have e := hmg0.symm.trans (S.glo f _ hf)
    cases e
    rfl
  subst hfa
  -- the tables
  let cs : List (Addr × Addr) := p.xt.tf.map (He.cT K)
  let nm : List Str := p.lam.map fun f => p.nm.getD f "" ++ ".<locals>." ++ "<lambda>"
  letI tb : Tbs := ⟨(cs.map (·.2)).zip nm⟩
  have hcode : ∀ (f : Nat) (x : Str), p.nm[f]? = some x → (fd f).code = .ref (He.codeOf K (x, none)) := fun f x h1 => by
    obtain ⟨s, df, N, hs, e1, F, _⟩ := S.at_ h1
    obtain ⟨oc, od, dV, kV, doc, pm, an, cdv, ct, osl, e, lk, hcd, _, _⟩ := F.ex
    obtain ⟨c0, hc0⟩ := He.codeIn_ref hcd
    have e3 : (fd f).code = cdv := by rw [e]
    rw [e3, hc0]
    have e2 := He.codeOf_eq (p := (x, none)) lk (by rw [e3]; exact hc0)
    rw [e2]
  have hL : ∀ base : Heap, (∀ p ∈ cs, LamX.TabB base mg p.1 p.2) → LamT p mg base fd := by
    intro base TB f x hf hx
    unfold lamB at hlam
    have hm : f ∈ p.lam := by simpa using hf
    match hl : p.lam, hm with
    | [], hm => cases hm
    | [g], hm =>
      have hg : f = g := by simpa using hm
      subst hg
      have hgx : p.nm.getD f "" = x := getD_of hx
      have hcs : cs = [He.cT K (x, none)] := by
        show (p.lam.map fun f => (p.nm.getD f "", none)).map (He.cT K) = _
        rw [hl]
        show [He.cT K (p.nm.getD f "", none)] = _
        rw [hgx]
      have hT : (Tbs.T : List (Addr × Str)) = [((He.cT K (x, none)).2, x ++ ".<locals>." ++ "<lambda>")] := by
        show (cs.map (·.2)).zip (p.lam.map fun f => p.nm.getD f "" ++ ".<locals>." ++ "<lambda>") = _
        rw [hcs, hl]
        show [((He.cT K (x, none)).2, p.nm.getD f "" ++ ".<locals>." ++ "<lambda>")] = _
        rw [hgx]
      refine ⟨(He.cT K (x, none)).1, (He.cT K (x, none)).2, TB _ (by rw [hcs]; exact List.mem_cons_self), hcode f x hx, by rw [hT]; exact List.mem_cons_self, fun q hq _ => ?_⟩
      rw [hT] at hq
      rcases List.mem_cons.mp hq with rfl | hq
      · rfl
      · cases hq
    | _ :: _ :: _, _ => rw [hl] at hlam; cases hlam
  have hfl : f < p.st.length := by
    rw [← hlen]
    exact (List.getElem?_eq_some_iff.mp hf).1
  have hst : p.st[f]? = some (p.st[f]'hfl) := List.getElem?_eq_getElem hfl
  have mem_cs : ∀ q ∈ cs, ∃ p0 ∈ p.xt.tf, He.cT K p0 = q := fun q hq => List.mem_map.mp hq
  refine ⟨K, KX, fd f, cs, spF (p.tab K fd) k f, fun q hq => ?_, fun q hq => ?_, fun q hq => ?_, fun s u => ?_, fun H a ns hl hbits hT hS => ?_, fun base h1 h2 TB => ?_⟩
  · obtain ⟨p0, h0, rfl⟩ := mem_cs q hq
    exact cem p0 h0
  · obtain ⟨p0, h0, rfl⟩ := mem_cs q hq
    exact cout p0 h0
  · obtain ⟨p0, h0, rfl⟩ := mem_cs q hq
    exact PySem.W.codeHd_of_K KX (chd p0 h0)
  · have b := FunD.bindsA (ps := [x]) (hfd f _ _ hf hst) (fun kV doc pm an cdv ct us hu => by
      rw [← hx] at hu ⊢
      exact hpl f _ hst _ _ _ _ kV doc pm an cdv ct us hu) s [u] rfl
    exact b
  · obtain ⟨l', e⟩ := hlaw ns hl hbits
    refine spF_law (T := p.tab K fd) (fun q hq => ?_) (by show (p.ps f).length = 1; rw [hx]; rfl) hS nl e
    have hq2 : q.1 ∈ cs.map (·.2) := (List.of_mem_zip (show (q.1, q.2) ∈ (cs.map (·.2)).zip nm from hq)).1
    obtain ⟨r, hr, e2⟩ := List.mem_map.mp hq2
    rw [← e2]
    exact LamX.TabS.nil (hT r hr)
  · have := S.ok (P := l.prog) (w := w) (base := base) (hL base TB) k f _ hf
    rw [hx] at this
    exact this
end Vx

set_option maxHeartbeats 0
namespace Vx
open PySem PySem.Spec PyProof.Rows L2
abbrev theP : Program := PySem.Challenge.pw_signsleft_k03_families
def top (i : Nat) : Stmt := theP.main.body.getD i (.Pass ⟨0, 0, 0, 0⟩)
abbrev f_small : Nat := 0
abbrev f_plain_segment : Nat := 1
abbrev f_come_to : Nat := 2
abbrev f_name_of : Nat := 3
abbrev f_is_of : Nat := 4
abbrev f_check_stems : Nat := 5
abbrev f_moved : Nat := 6
abbrev f_law_state : Nat := 7
abbrev f_law_digit : Nat := 8
abbrev f_law_letters : Nat := 9
abbrev f_law_gap : Nat := 10
abbrev f_law_plain : Nat := 11
abbrev f_law_stem : Nat := 12
abbrev f_law_beside : Nat := 13
abbrev f_law_otherwise : Nat := 14
abbrev f_law_in : Nat := 15
abbrev f_law_due : Nat := 16
abbrev f_law_asked : Nat := 17
abbrev f_law : Nat := 18
/-- 0: small(sign) -/
def d_small : Def := ⟨1, 1,
  (.cons (.ifs (.e (.op .isin (.v 0) (.g "PLAIN" (.str [97, 98, 99, 100, 101, 102, 103, 104, 105, 106, 107, 108, 109, 110, 111, 112, 113, 114, 115, 116, 117, 118, 119, 120, 121, 122, 48, 49, 50, 51, 52, 53, 54, 55, 56, 57])))) (.cons (.ret (.v 0)) .nil) .nil) (.cons (.ifs (.e (.op .isin (.v 0) (.g "GREAT" (.str [65, 66, 67, 68, 69, 70, 71, 72, 73, 74, 75, 76, 77, 78, 79, 80, 81, 82, 83, 84, 85, 86, 87, 88, 89, 90])))) (.cons (.ret (.idx (.g "PLAIN" (.str [97, 98, 99, 100, 101, 102, 103, 104, 105, 106, 107, 108, 109, 110, 111, 112, 113, 114, 115, 116, 117, 118, 119, 120, 121, 122, 48, 49, 50, 51, 52, 53, 54, 55, 56, 57])) (.sm .index (.g "GREAT" (.str [65, 66, 67, 68, 69, 70, 71, 72, 73, 74, 75, 76, 77, 78, 79, 80, 81, 82, 83, 84, 85, 86, 87, 88, 89, 90])) (.cons (.v 0) .nil)))) .nil) .nil) (.cons (.ifs (.e (.op .isin (.v 0) (.g "BETWEEN" (.str [32, 95, 45])))) (.cons (.ret (.c (.str [95]))) .nil) .nil) (.cons (.ret (.c .non)) .nil))))⟩
def e_plain_segment_0 : Ex := (.call true f_small (.cons (.v 3) .nil))
def c_plain_segment_0 : Tes := (.cons (.e (.op .ne (.v 4) (.c (.str [])))) .nil)
def e_plain_segment_1 : Ex := (.v 4)
/-- 1: plain_segment(segment) -/
def d_plain_segment : Def := ⟨1, 5,
  (.cons (.asg (.n 1) (.lc false (.n 3) .str (.cons (.v 0) .nil) .nil e_plain_segment_0 [("sign", 3)])) (.cons (.ifs (.e (.op .isin (.c .non) (.v 1))) (.cons (.ret (.c .non)) .nil) .nil) (.cons (.asg (.n 2) (.lc false (.n 4) .lst (.cons (.sm .split (.sm .join (.c (.str [])) (.cons (.v 1) .nil)) (.cons (.c (.str [95])) .nil)) .nil) c_plain_segment_0 e_plain_segment_1 [("word", 4)])) (.cons (.ifs (.e (.op .eq (.v 2) (.lst false .nil))) (.cons (.ret (.c .non)) .nil) .nil) (.cons (.ret (.sm .join (.c (.str [95])) (.cons (.v 2) .nil))) .nil)))))⟩
def e_come_to_0 : Ex := (.call true f_plain_segment (.cons (.v 3) .nil))
/-- 2: come_to(thing) -/
def d_come_to : Def := ⟨1, 4,
  (.cons (.ifs (.not (.e (.bi (.isi .str) (.v 0)))) (.cons (.ret (.c .non)) .nil) .nil) (.cons (.asg (.n 1) (.lc false (.n 3) .lst (.cons (.sm .split (.v 0) (.cons (.c (.str [47])) .nil)) .nil) .nil e_come_to_0 [("segment", 3)])) (.cons (.ifs (.or (.e (.op .isin (.c .non) (.v 1))) (.e (.op .gt (.bi .len (.v 1)) (.g "MOST_SEGMENTS" (.int 4))))) (.cons (.ret (.c .non)) .nil) .nil) (.cons (.asg (.n 2) (.sm .join (.c (.str [47])) (.cons (.v 1) .nil))) (.cons (.ifs (.e (.op .gt (.bi .len (.v 2)) (.g "MOST_SIGNS" (.int 24)))) (.cons (.ret (.c .non)) .nil) .nil) (.cons (.ret (.v 2)) .nil))))))⟩
/-- 3: name_of(thing) -/
def d_name_of : Def := ⟨1, 2,
  (.cons (.asg (.n 1) (.call true f_come_to (.cons (.v 0) .nil))) (.cons (.ifs (.e (.op .isv (.v 1) (.c .non))) (.cons (.raise 1 "no name") .nil) .nil) (.cons (.ret (.v 1)) .nil)))⟩
/-- 4: is_of(name, stem) -/
def d_is_of : Def := ⟨2, 2,
  (.cons (.asg (.n 0) (.call true f_name_of (.cons (.v 0) .nil))) (.cons (.asg (.n 1) (.call true f_name_of (.cons (.v 1) .nil))) (.cons (.ret (.or (.op .eq (.v 0) (.v 1)) (.op .eq (.sl (.v 0) .no (.so (.op .add (.bi .len (.v 1)) (.c (.int 1))))) (.op .add (.v 1) (.c (.str [47])))))) .nil)))⟩
/-- 5: check_stems(stem, new) -/
def d_check_stems : Def := ⟨2, 2,
  (.cons (.ifs (.or (.e (.call true f_is_of (.cons (.v 0) (.cons (.v 1) .nil)))) (.e (.call true f_is_of (.cons (.v 1) (.cons (.v 0) .nil))))) (.cons (.raise 2 "one is of the other's family") .nil) .nil) .nil)⟩
/-- 6: moved(name, stem, new) -/
def d_moved : Def := ⟨3, 3,
  (.cons (.asg (.n 0) (.call true f_name_of (.cons (.v 0) .nil))) (.cons (.asg (.n 1) (.call true f_name_of (.cons (.v 1) .nil))) (.cons (.asg (.n 2) (.call true f_name_of (.cons (.v 2) .nil))) (.cons (.ex (.call true f_check_stems (.cons (.v 1) (.cons (.v 2) .nil)))) (.cons (.ifs (.not (.e (.call true f_is_of (.cons (.v 0) (.cons (.v 1) .nil))))) (.cons (.raise 2 "not of this family") .nil) .nil) (.cons (.ret (.call true f_name_of (.cons (.op .add (.v 2) (.sl (.v 0) (.so (.bi .len (.v 1))) .no)) .nil))) .nil))))))⟩
/-- 7: _law_state(_law_cell) -/
def d_law_state : Def := ⟨1, 1,
  (.cons (.ret (.lst true (.cons (.op .fdiv (.bi .abs (.v 0)) (.c (.int 2))) (.cons (.op .mod (.bi .abs (.v 0)) (.c (.int 2))) (.cons (.op .add (.op .mod (.bi .abs (.v 0)) (.c (.int 2147483629))) (.c (.int 7))) .nil))))) .nil)⟩
/-- 8: _law_digit(_law_s, _law_base) -/
def d_law_digit : Def := ⟨2, 3,
  (.cons (.ifs (.and (.e (.op .eq (.idx (.v 0) (.c (.int 1))) (.c (.int 0)))) (.e (.op .gt (.idx (.v 0) (.c (.int 0))) (.c (.int 0))))) (.cons (.asg (.n 2) (.op .mod (.idx (.v 0) (.c (.int 0))) (.v 1))) (.cons (.setI (.v 0) (.c (.int 0)) (.op .fdiv (.idx (.v 0) (.c (.int 0))) (.v 1))) (.cons (.ret (.v 2)) .nil))) .nil) (.cons (.setI (.v 0) (.c (.int 2)) (.op .add (.op .mod (.op .add (.op .mul (.idx (.v 0) (.c (.int 2))) (.op .add (.op .fdiv (.idx (.v 0) (.c (.int 2))) (.c (.int 1009))) (.c (.int 69621)))) (.op .mod (.idx (.v 0) (.c (.int 0))) (.c (.int 2147483587)))) (.c (.int 2147483629))) (.c (.int 7)))) (.cons (.ret (.op .mod (.op .fdiv (.idx (.v 0) (.c (.int 2))) (.c (.int 97))) (.v 1))) .nil)))⟩
def e_law_letters_0 : Ex := (.idx (.v 2) (.call false f_law_digit (.cons (.v 0) (.cons (.c (.int 62)) .nil))))
/-- 9: _law_letters(_law_s, _law_many) -/
def d_law_letters : Def := ⟨2, 4,
  (.cons (.asg (.n 2) (.c (.str [97, 98, 99, 100, 101, 102, 103, 104, 105, 106, 107, 108, 109, 110, 111, 112, 113, 114, 115, 116, 117, 118, 119, 120, 121, 122, 48, 49, 50, 51, 52, 53, 54, 55, 56, 57, 65, 66, 67, 68, 69, 70, 71, 72, 73, 74, 75, 76, 77, 78, 79, 80, 81, 82, 83, 84, 85, 86, 87, 88, 89, 90]))) (.cons (.ret (.sm .join (.c (.str [])) (.cons (.lc false (.n 3) .rng1 (.cons (.v 1) .nil) .nil e_law_letters_0 [("_law_k", 3)]) .nil))) .nil))⟩
def e_law_gap_0 : Ex := (.idx (.c (.str [32, 95, 45])) (.call false f_law_digit (.cons (.v 0) (.cons (.c (.int 3)) .nil))))
/-- 10: _law_gap(_law_s) -/
def d_law_gap : Def := ⟨1, 2,
  (.cons (.ret (.sm .join (.c (.str [])) (.cons (.lc false (.n 1) .rng1 (.cons (.op .add (.c (.int 1)) (.call false f_law_digit (.cons (.v 0) (.cons (.c (.int 3)) .nil)))) .nil) .nil e_law_gap_0 [("_law_k", 1)]) .nil))) .nil)⟩
def e_law_plain_0 : Ex := (.idx (.v 2) (.call false f_law_digit (.cons (.v 0) (.cons (.c (.int 36)) .nil))))
/-- 11: _law_plain(_law_s, _law_many) -/
def d_law_plain : Def := ⟨2, 4,
  (.cons (.asg (.n 2) (.c (.str [97, 98, 99, 100, 101, 102, 103, 104, 105, 106, 107, 108, 109, 110, 111, 112, 113, 114, 115, 116, 117, 118, 119, 120, 121, 122, 48, 49, 50, 51, 52, 53, 54, 55, 56, 57]))) (.cons (.ret (.sm .join (.c (.str [])) (.cons (.lc false (.n 3) .rng1 (.cons (.v 1) .nil) .nil e_law_plain_0 [("_law_k", 3)]) .nil))) .nil))⟩
def e_law_stem_0 : Ex := (.call false f_law_plain (.cons (.v 0) (.cons (.op .add (.c (.int 1)) (.call false f_law_digit (.cons (.v 0) (.cons (.c (.int 6)) .nil)))) .nil)))
/-- 12: _law_stem(_law_s) -/
def d_law_stem : Def := ⟨1, 2,
  (.cons (.ret (.sm .join (.c (.str [47])) (.cons (.lc false (.n 1) .rng1 (.cons (.op .add (.c (.int 1)) (.call false f_law_digit (.cons (.v 0) (.cons (.c (.int 2)) .nil)))) .nil) .nil e_law_stem_0 [("_law_k", 1)]) .nil))) .nil)⟩
def e_law_beside_0 : Ex := (.call false f_law_plain (.cons (.v 0) (.cons (.op .add (.c (.int 1)) (.call false f_law_digit (.cons (.v 0) (.cons (.c (.int 4)) .nil)))) .nil)))
/-- 13: _law_beside(_law_s, _law_stem_here) -/
def d_law_beside : Def := ⟨2, 6,
  (.cons (.asg (.n 2) (.call false f_law_digit (.cons (.v 0) (.cons (.c (.int 7)) .nil)))) (.cons (.ifs (.e (.op .lt (.v 2) (.c (.int 3)))) (.cons (.asg (.n 3) (.sm .join (.c (.str [47])) (.cons (.lc false (.n 5) .rng1 (.cons (.op .add (.c (.int 1)) (.call false f_law_digit (.cons (.v 0) (.cons (.c (.int 2)) .nil)))) .nil) .nil e_law_beside_0 [("_law_k", 5)]) .nil))) (.cons (.asg (.n 4) (.sm .join (.c (.str [47])) (.cons (.sl (.sm .split (.op .add (.op .add (.v 1) (.c (.str [47]))) (.v 3)) (.cons (.c (.str [47])) .nil)) .no (.so (.c (.int 4)))) .nil))) (.cons (.ret (.sm .rstrip (.sl (.v 4) .no (.so (.c (.int 24)))) (.cons (.c (.str [47])) .nil))) .nil))) .nil) (.cons (.ifs (.e (.op .eq (.v 2) (.c (.int 3)))) (.cons (.ret (.v 1)) .nil) .nil) (.cons (.ifs (.e (.op .eq (.v 2) (.c (.int 4)))) (.cons (.ret (.sl (.op .add (.v 1) (.call false f_law_plain (.cons (.v 0) (.cons (.c (.int 2)) .nil)))) .no (.so (.c (.int 24))))) .nil) .nil) (.cons (.ifs (.and (.e (.op .eq (.v 2) (.c (.int 5)))) (.e (.op .isin (.c (.str [47])) (.v 1)))) (.cons (.ret (.idx (.sm .rpart (.v 1) (.cons (.c (.str [47])) .nil)) (.c (.int 0)))) .nil) .nil) (.cons (.ret (.call false f_law_stem (.cons (.v 0) .nil))) .nil))))))⟩
def e_law_otherwise_0 : Ex := (.idx (.lst false (.cons (.v 3) (.cons (.sm .upper (.v 3) .nil) .nil))) (.call false f_law_digit (.cons (.v 1) (.cons (.c (.int 2)) .nil))))
/-- 14: _law_otherwise(_law_name, _law_s) -/
def d_law_otherwise : Def := ⟨2, 4,
  (.cons (.asg (.n 2) (.sm .join (.c (.str [])) (.cons (.lc false (.n 3) .str (.cons (.v 0) .nil) .nil e_law_otherwise_0 [("_law_sign", 3)]) .nil))) (.cons (.ret (.op .add (.op .add (.idx (.lst false (.cons (.c (.str [])) (.cons (.c (.str [32])) (.cons (.c (.str [45])) .nil)))) (.call false f_law_digit (.cons (.v 1) (.cons (.c (.int 3)) .nil)))) (.v 2)) (.idx (.lst false (.cons (.c (.str [])) (.cons (.c (.str [95, 32])) .nil))) (.call false f_law_digit (.cons (.v 1) (.cons (.c (.int 2)) .nil)))))) .nil))⟩
/-- 15: _law_in(_law_name, _law_stem_here) -/
def d_law_in : Def := ⟨2, 2,
  (.cons (.ret (.sm .starts (.op .add (.v 0) (.c (.str [47]))) (.cons (.op .add (.v 1) (.c (.str [47]))) .nil))) .nil)⟩
/-- 16: _law_due(_law_name, _law_stem_here, _law_new) -/
def d_law_due : Def := ⟨3, 4,
  (.cons (.ifs (.or (.e (.call true f_law_in (.cons (.v 1) (.cons (.v 2) .nil)))) (.or (.e (.call true f_law_in (.cons (.v 2) (.cons (.v 1) .nil)))) (.not (.e (.call true f_law_in (.cons (.v 0) (.cons (.v 1) .nil))))))) (.cons (.ret (.tup (.cons (.c (.str [114, 101, 102, 117, 115, 101, 100])) (.cons (.c (.str [114, 117, 108, 101])) .nil)))) .nil) .nil) (.cons (.asg (.n 3) (.op .add (.v 2) (.sl (.v 0) (.so (.bi .len (.v 1))) .no))) (.cons (.ifs (.or (.e (.op .gt (.bi .len (.v 3)) (.c (.int 24)))) (.e (.op .gt (.sm .count (.v 3) (.cons (.c (.str [47])) .nil)) (.c (.int 3))))) (.cons (.ret (.tup (.cons (.c (.str [114, 101, 102, 117, 115, 101, 100])) (.cons (.c (.str [110, 97, 109, 101])) .nil)))) .nil) .nil) (.cons (.ret (.tup (.cons (.c (.str [116, 111, 108, 100])) (.cons (.v 3) .nil)))) .nil))))⟩
def s_law_asked_0 : Sts := (.cons (.ifs (.e (.op .ne (.isx 2 (.v 2)) (.isx 1 (.v 2)))) (.cons (.asg (.n 1) (.tup (.cons (.c (.str [114, 101, 102, 117, 115, 101, 100])) (.cons (.idx (.lst false (.cons (.c (.str [110, 97, 109, 101])) (.cons (.c (.str [114, 117, 108, 101])) .nil))) (.bi .int (.isx 2 (.v 2)))) .nil)))) .nil) .nil) .nil)
/-- 17: _law_asked(_law_ask) -/
def d_law_asked : Def := ⟨1, 3,
  (.cons (.asg (.n 1) (.tup (.cons (.c (.str [114, 101, 102, 117, 115, 101, 100])) (.cons (.c (.str [111, 116, 104, 101, 114])) .nil)))) (.cons (.try 0 (some 2) (.cons (.asg (.n 1) (.tup (.cons (.c (.str [116, 111, 108, 100])) (.cons (.act 0) .nil)))) .nil) s_law_asked_0) (.cons (.ret (.v 1)) .nil)))⟩
def e_law_0 : Ex := (.call false f_law_otherwise (.cons (.v 8) (.cons (.v 2) .nil)))
def q_law_0 : Ex := (.call true f_moved (.cons (.idx (.v 6) (.c (.int 0))) (.cons (.idx (.v 6) (.c (.int 1))) (.cons (.idx (.v 6) (.c (.int 2))) .nil))))
def b_law_0 : Sts := (.cons (.asg (.n 2) (.call false f_law_state (.cons (.v 1) .nil))) (.cons (.asg (.n 3) (.call false f_law_stem (.cons (.v 2) .nil))) (.cons (.asg (.n 4) (.call false f_law_beside (.cons (.v 2) (.cons (.v 3) .nil)))) (.cons (.asg (.n 5) (.idx (.lst false (.cons (.call false f_law_stem (.cons (.v 2) .nil)) (.cons (.call false f_law_stem (.cons (.v 2) .nil)) (.cons (.call false f_law_beside (.cons (.v 2) (.cons (.v 3) .nil))) (.cons (.call false f_law_beside (.cons (.v 2) (.cons (.v 4) .nil))) .nil))))) (.call false f_law_digit (.cons (.v 2) (.cons (.c (.int 4)) .nil))))) (.cons (.asg (.n 6) (.lc false (.n 8) .lst (.cons (.lst false (.cons (.v 4) (.cons (.v 3) (.cons (.v 5) .nil)))) .nil) .nil e_law_0 [("_law_one", 8)])) (.cons (.asg (.n 7) (.lst false (.cons (.call true f_is_of (.cons (.idx (.v 6) (.c (.int 0))) (.cons (.idx (.v 6) (.c (.int 1))) .nil))) (.cons (.call true f_is_of (.cons (.idx (.v 6) (.c (.int 2))) (.cons (.idx (.v 6) (.c (.int 0))) .nil))) .nil)))) (.cons (.ifs (.or (.e (.op .ne (.v 7) (.lst false (.cons (.call true f_law_in (.cons (.v 4) (.cons (.v 3) .nil))) (.cons (.call true f_law_in (.cons (.v 5) (.cons (.v 4) .nil))) .nil))))) (.not (.e (.bi (.isi .bool) (.idx (.v 7) (.c (.int 0))))))) (.cons (.ret (.c (.bl false))) .nil) .nil) (.cons (.ifs (.e (.op .ne (.ask f_law_asked q_law_0) (.call true f_law_due (.cons (.v 4) (.cons (.v 3) (.cons (.v 5) .nil)))))) (.cons (.ret (.c (.bl false))) .nil) .nil) .nil))))))))
/-- 18: law(_law_script) -/
def d_law : Def := ⟨1, 9,
  (.cons (.for (.n 1) .lst (.cons (.sl (.op .add (.v 0) (.lst false (.cons (.c (.int 0)) .nil))) .no (.so (.c (.int 14)))) .nil) b_law_0) (.cons (.ret (.c (.bl true))) .nil))⟩
def dfs : List Def := [d_small, d_plain_segment, d_come_to, d_name_of, d_is_of, d_check_stems, d_moved, d_law_state, d_law_digit, d_law_letters, d_law_gap, d_law_plain, d_law_stem, d_law_beside, d_law_otherwise, d_law_in, d_law_due, d_law_asked, d_law]
def pgNm : List Str := (["small", "plain_segment", "come_to", "name_of", "is_of", "check_stems", "moved", "_law_state", "_law_digit", "_law_letters", "_law_gap", "_law_plain", "_law_stem", "_law_beside", "_law_otherwise", "_law_in", "_law_due", "_law_asked", "law"] : List PySem.Str)
def pgN : List (List Str) := [["sign"], ["segment", "signs", "words", "sign", "word"], ["thing", "segments", "name", "segment"], ["thing", "name"], ["name", "stem"], ["stem", "new"], ["name", "stem", "new"], ["_law_cell"], ["_law_s", "_law_base", "_law_found"], ["_law_s", "_law_many", "_law_some", "_law_k"], ["_law_s", "_law_k"], ["_law_s", "_law_many", "_law_some", "_law_k"], ["_law_s", "_law_k"], ["_law_s", "_law_stem_here", "_law_way", "_law_more", "_law_found", "_law_k"], ["_law_name", "_law_s", "_law_found", "_law_sign"], ["_law_name", "_law_stem_here"], ["_law_name", "_law_stem_here", "_law_new", "_law_found"], ["_law_ask", "_law_found", "e"], ["_law_script", "_law_cell", "_law_s", "_law_stem_here", "_law_name", "_law_new", "_law_some", "_law_told", "_law_one"]]
def pgPs : List (List Str) := [["sign"], ["segment"], ["thing"], ["thing"], ["name", "stem"], ["stem", "new"], ["name", "stem", "new"], ["_law_cell"], ["_law_s", "_law_base"], ["_law_s", "_law_many"], ["_law_s"], ["_law_s", "_law_many"], ["_law_s"], ["_law_s", "_law_stem_here"], ["_law_name", "_law_s"], ["_law_name", "_law_stem_here"], ["_law_name", "_law_stem_here", "_law_new"], ["_law_ask"], ["_law_script"]]
def pgSt : List Stmt := [top 10, top 11, top 12, top 13, top 14, top 15, top 16, top 18, top 19, top 20, top 21, top 22, top 23, top 24, top 25, top 26, top 27, top 28, top 29]
def pg : Pg := ⟨dfs, pgNm, pgN, pgSt, (["SignError", "NoName", "NoRule"] : List PySem.Str), [("PLAIN", (D.str [97, 98, 99, 100, 101, 102, 103, 104, 105, 106, 107, 108, 109, 110, 111, 112, 113, 114, 115, 116, 117, 118, 119, 120, 121, 122, 48, 49, 50, 51, 52, 53, 54, 55, 56, 57])), ("GREAT", (D.str [65, 66, 67, 68, 69, 70, 71, 72, 73, 74, 75, 76, 77, 78, 79, 80, 81, 82, 83, 84, 85, 86, 87, 88, 89, 90])), ("BETWEEN", (D.str [32, 95, 45])), ("MOST_SEGMENTS", (D.int 4)), ("MOST_SIGNS", (D.int 24))], [(0, 1, false), (0, 2, false), (0, 0, true), (1, 1, true), (1, 2, false), (1, 0, true), (2, 1, false), (2, 2, true), (2, 0, true)], [18]⟩
theorem pg_plain : plainAll pgSt pgPs := ⟨fun _ _ _ _ _ _ _ _ _ _ us hl => match us, hl with | [_], _ => rfl, fun _ _ _ _ _ _ _ _ _ _ us hl => match us, hl with | [_], _ => rfl, fun _ _ _ _ _ _ _ _ _ _ us hl => match us, hl with | [_], _ => rfl, fun _ _ _ _ _ _ _ _ _ _ us hl => match us, hl with | [_], _ => rfl, fun _ _ _ _ _ _ _ _ _ _ us hl => match us, hl with | [_, _], _ => rfl, fun _ _ _ _ _ _ _ _ _ _ us hl => match us, hl with | [_, _], _ => rfl, fun _ _ _ _ _ _ _ _ _ _ us hl => match us, hl with | [_, _, _], _ => rfl, fun _ _ _ _ _ _ _ _ _ _ us hl => match us, hl with | [_], _ => rfl, fun _ _ _ _ _ _ _ _ _ _ us hl => match us, hl with | [_, _], _ => rfl, fun _ _ _ _ _ _ _ _ _ _ us hl => match us, hl with | [_, _], _ => rfl, fun _ _ _ _ _ _ _ _ _ _ us hl => match us, hl with | [_], _ => rfl, fun _ _ _ _ _ _ _ _ _ _ us hl => match us, hl with | [_, _], _ => rfl, fun _ _ _ _ _ _ _ _ _ _ us hl => match us, hl with | [_], _ => rfl, fun _ _ _ _ _ _ _ _ _ _ us hl => match us, hl with | [_, _], _ => rfl, fun _ _ _ _ _ _ _ _ _ _ us hl => match us, hl with | [_, _], _ => rfl, fun _ _ _ _ _ _ _ _ _ _ us hl => match us, hl with | [_, _], _ => rfl, fun _ _ _ _ _ _ _ _ _ _ us hl => match us, hl with | [_, _, _], _ => rfl, fun _ _ _ _ _ _ _ _ _ _ us hl => match us, hl with | [_], _ => rfl, fun _ _ _ _ _ _ _ _ _ _ us hl => match us, hl with | [_], _ => rfl, trivial⟩
theorem pg_ps : ∀ f, f < pg.st.length → pg.ps f = pgPs.getD f [] := by decide +kernel
theorem pg_chk (K : PySem.W.Frag) (fd : Nat → FuncData) : chkAll (pg.tab K fd) pg.lam 0 pg.dfs pg.N pg.st = true := by kernel_rfl
def loose : List PySem.Str := (["SignError", "NoName", "NoRule", "PLAIN", "GREAT", "BETWEEN", "MOST_SEGMENTS", "MOST_SIGNS", "small", "plain_segment", "come_to", "name_of", "is_of", "check_stems", "moved", "_law_state", "_law_digit", "_law_letters", "_law_gap", "_law_plain", "_law_stem", "_law_beside", "_law_otherwise", "_law_in", "_law_due", "_law_asked"] : List PySem.Str)
abbrev theR : PySem.W.OpenRow := PySem.W.OpenLaw.row PySem.Challenge.rw_signsleft_k03_families
abbrev hk : PySem.W.Hook := hookX 5 pg.fas pg.fns pg.xt
def ob (s : PySem.W.SharedT) : AlY := obsXG 5 pg.fas pg.fns pg.xt (HandSHeadRun.getT s)
theorem ob_eq (s : PySem.W.SharedT) : ob s = hk.obs s.abs := obsXG_eq (HandSHeadRun.getT_eq s)
theorem run (w : World) : HandSHeadRun.RunEq theR (PySem.W.view theR.prog [29]) hk ob 6000 loose w := by
  intro os
  kernel_rfl
end Vx

set_option maxHeartbeats 0
/-! ### names: the plain law -/
namespace Vx
open PySem L2
abbrev P36 : Tx := [97, 98, 99, 100, 101, 102, 103, 104, 105, 106, 107, 108, 109, 110, 111, 112, 113, 114, 115, 116, 117, 118, 119, 120, 121, 122, 48, 49, 50, 51, 52, 53, 54, 55, 56, 57]
abbrev G26 : Tx := [65, 66, 67, 68, 69, 70, 71, 72, 73, 74, 75, 76, 77, 78, 79, 80, 81, 82, 83, 84, 85, 86, 87, 88, 89, 90]
abbrev B3 : Tx := [32, 95, 45]
def sp1 (s : Nat) (acc : Tx) : Tx → List Tx
  | [] => [acc]
  | c :: r => if c = s then acc :: sp1 s [] r else sp1 s (acc ++ [c]) r
theorem spl1 (s : Nat) : ∀ (l acc : Tx), TL.spl [s] 0 acc l = sp1 s acc l
  | [], acc => rfl
  | c :: r, acc => by
    unfold TL.spl sp1
    have e : (TL.pre [s] (c :: r) = true) = (c = s) := by
      show ((List.take 1 (c :: r) == [s]) = true) = _
      simp
    simp only [e]
    split
    · show acc :: TL.spl [s] 0 [] r = _
      rw [spl1 s r []]
    · exact spl1 s r _
/-- a sign made plain -/
def nc (c : Nat) : Option Nat := if c ∈ P36 then some c else if c ∈ G26 then some (c + 32) else if c ∈ B3 then some 95 else none
def smallF (c : Nat) : D := match nc c with
  | some x => .str [x]
  | none => .non
def fstep (z : Tx × Bool) (c : Nat) : Tx × Bool := if c = 95 then (z.1, decide (z.1 ≠ [])) else (z.1 ++ (if z.2 then [95] else []) ++ [c], false)
theorem fstep_us (z : Tx × Bool) : fstep z 95 = (z.1, decide (z.1 ≠ [])) := rfl
theorem fstep_ne {z : Tx × Bool} {c : Nat} (h : c ≠ 95) : fstep z c = (z.1 ++ (if z.2 then [95] else []) ++ [c], false) := by
  unfold fstep; rw [if_neg h]
def fold (u : Tx) : Tx := (u.foldl fstep ([], false)).1
def ncs : Tx → Option Tx
  | [] => some []
  | c :: r => match nc c, ncs r with
    | some x, some u => some (x :: u)
    | _, _ => none
def sgN (u : Tx) : D := if fold u = [] then .non else .str (fold u)
def segD (t : Tx) : D := match ncs t with
  | none => .non
  | some u => sgN u
def joinO (xs : List D) : D := match unStr xs with
  | none => .non
  | some ss => if 4 < ss.length ∨ 24 < (TL.joinL [47] ss).length then .non else .str (TL.joinL [47] ss)
def nameD (t : Tx) : D := joinO ((sp1 47 [] t).map segD)
/-! words and the fold -/
theorem joinL_snoc (s : Tx) (w : Tx) : ∀ (ps : List Tx), ps ≠ [] → TL.joinL s (ps ++ [w]) = TL.joinL s ps ++ (s ++ w)
  | [], h => absurd rfl h
  | [p], _ => rfl
  | p :: q :: r, _ => by
    show p ++ (s ++ TL.joinL s ((q :: r) ++ [w])) = p ++ (s ++ TL.joinL s (q :: r)) ++ (s ++ w)
    rw [joinL_snoc s w (q :: r) (by simp)]
    simp [List.append_assoc]
theorem joinL_tail (s : Tx) (w x : Tx) (ps : List Tx) : TL.joinL s (ps ++ [w ++ x]) = TL.joinL s (ps ++ [w]) ++ x := by
  cases ps with
  | nil => rfl
  | cons p r =>
    rw [joinL_snoc s _ _ (by simp), joinL_snoc s _ _ (by simp)]
    simp [List.append_assoc]
theorem joinL_nil {s : Tx} : ∀ {ps : List Tx}, (∀ p ∈ ps, p ≠ []) → (TL.joinL s ps = [] ↔ ps = [])
  | [], _ => by simp [TL.joinL]
  | [p], h => by
    have := h p List.mem_cons_self
    show p = [] ↔ _
    simp [this]
  | p :: q :: r, h => by
    have := h p List.mem_cons_self
    show p ++ _ = [] ↔ _
    simp [this]
def ww (acc : Tx) : List Tx := if acc = [] then [] else [acc]
theorem fold_words : ∀ (u : Tx) (pw : List Tx) (acc : Tx), (∀ w ∈ pw, w ≠ []) → (u.foldl fstep (TL.joinL [95] (pw ++ ww acc), decide (acc = [] ∧ pw ≠ []))).1 = TL.joinL [95] (pw ++ (sp1 95 acc u).filter fun w => decide (w ≠ []))
  | [], pw, acc, h => by
    unfold sp1 ww
    by_cases e : acc = [] <;> simp [e]
  | c :: r, pw, acc, h => by
    rw [List.foldl_cons]
    unfold sp1
    by_cases hc : c = 95
    · have hpw : ∀ w ∈ pw ++ ww acc, w ≠ [] := fun w hw => by
        rcases List.mem_append.mp hw with hw | hw
        · exact h w hw
        · unfold ww at hw
          split at hw
          · cases hw
          · rw [List.mem_singleton.mp hw]; assumption
      have ih := fold_words r (pw ++ ww acc) [] hpw
      have e1 : fstep (TL.joinL [95] (pw ++ ww acc), decide (acc = [] ∧ pw ≠ [])) c = (TL.joinL [95] (pw ++ ww acc ++ ww []), decide (([] : Tx) = [] ∧ pw ++ ww acc ≠ [])) := by
        have e0 : decide (TL.joinL [95] (pw ++ ww acc) ≠ []) = decide (pw ++ ww acc ≠ []) := by
          rw [decide_eq_decide]
          exact not_congr (joinL_nil hpw)
        unfold fstep
        rw [if_pos hc]
        show (TL.joinL [95] (pw ++ ww acc), decide (TL.joinL [95] (pw ++ ww acc) ≠ [])) = (TL.joinL [95] (pw ++ ww acc ++ []), decide (([] : Tx) = [] ∧ pw ++ ww acc ≠ []))
        rw [List.append_nil, e0]
        simp
      rw [e1, ih, if_pos hc, List.filter_cons]
      by_cases e : acc = []
      · simp [e, ww]
      · simp [e, ww]
    · have ih := fold_words r pw (acc ++ [c]) h
      have e1 : fstep (TL.joinL [95] (pw ++ ww acc), decide (acc = [] ∧ pw ≠ [])) c = (TL.joinL [95] (pw ++ ww (acc ++ [c])), decide (acc ++ [c] = [] ∧ pw ≠ [])) := by
        unfold fstep
        rw [if_neg hc]
        have e2 : ww (acc ++ [c]) = [acc ++ [c]] := by simp [ww]
        rw [e2]
        by_cases e : acc = []
        · subst e
          by_cases ep : pw = []
          · subst ep; simp [ww, TL.joinL]
          · simp [ww, ep, joinL_snoc [95] _ _ ep]
        · have e3 : ww acc = [acc] := by simp [ww, e]
          rw [e3, joinL_tail]
          simp [e]
      rw [e1, ih, if_neg hc]
theorem fold_eq (u : Tx) : fold u = TL.joinL [95] ((sp1 95 [] u).filter fun w => decide (w ≠ [])) := by
  have := fold_words u [] [] (by simp)
  simpa [ww, TL.joinL, fold] using this
/-! the fold of a fold -/
theorem fold_inv : ∀ (u : Tx) (f : Tx) (g : Bool), f.foldl fstep ([], false) = (f, false) → (g = true → f ≠ []) → ∃ g', u.foldl fstep (f, g) = ((u.foldl fstep (f, g)).1, g') ∧ (u.foldl fstep (f, g)).1.foldl fstep ([], false) = ((u.foldl fstep (f, g)).1, false)
  | [], f, g, h, _ => ⟨g, rfl, h⟩
  | c :: r, f, g, h, hg => by
    rw [List.foldl_cons]
    by_cases hc : c = 95
    · have e : fstep (f, g) c = (f, decide (f ≠ [])) := by unfold fstep; rw [if_pos hc]
      rw [e]
      exact fold_inv r f _ h (by simp)
    · have e : fstep (f, g) c = (f ++ (if g then [95] else []) ++ [c], false) := by unfold fstep; rw [if_neg hc]
      rw [e]
      refine fold_inv r _ _ ?_ (by simp)
      rw [List.foldl_append, List.foldl_append, h]
      cases g with
      | false => simp [fstep, hc]
      | true =>
        have := hg rfl
        simp [fstep, hc, this]
theorem fold_fold (u : Tx) : (fold u).foldl fstep ([], false) = (fold u, false) := by
  obtain ⟨g, _, h⟩ := fold_inv u [] false rfl (by simp)
  exact h
def okN1 (c : Nat) : Prop := c ∈ P36 ∨ c = 95
theorem nc_ok {c x : Nat} (h : nc c = some x) : okN1 x := by
  unfold nc at h
  split at h
  · cases h; exact .inl ‹_›
  · split at h
    · cases h
      rename_i hg
      have : ∀ c ∈ G26, c + 32 ∈ P36 := by decide
      exact .inl (this c hg)
    · split at h
      · cases h; exact .inr rfl
      · cases h
theorem ncs_ok : ∀ {t u : Tx}, ncs t = some u → (∀ c ∈ u, okN1 c) ∧ u.length = t.length
  | [], u, h => by cases h; exact ⟨by simp, rfl⟩
  | c :: r, u, h => by
    unfold ncs at h
    split at h
    · rename_i x v hx hv
      cases h
      obtain ⟨i1, i2⟩ := ncs_ok hv
      refine ⟨fun y hy => ?_, by simp [i2]⟩
      rcases List.mem_cons.mp hy with rfl | hy
      · exact nc_ok hx
      · exact i1 y hy
    · cases h
theorem fold_ok : ∀ (u : Tx) (f : Tx) (g : Bool), (∀ c ∈ u, okN1 c) → (∀ c ∈ f, okN1 c) → ∀ c ∈ (u.foldl fstep (f, g)).1, okN1 c
  | [], f, g, _, h => h
  | c :: r, f, g, hu, h => by
    rw [List.foldl_cons]
    have hr := fun x hx => hu x (List.mem_cons_of_mem _ hx)
    unfold fstep
    split
    · exact fold_ok r f _ hr h
    · refine fold_ok r _ _ hr fun x hx => ?_
      rcases List.mem_append.mp hx with hx | hx
      · rcases List.mem_append.mp hx with hx | hx
        · exact h x hx
        · cases g
          · simp at hx
          · exact .inr (by simpa using hx)
      · rw [List.mem_singleton.mp hx]
        exact hu c List.mem_cons_self
theorem fold_len : ∀ (u : Tx) (f : Tx) (g : Bool), (u.foldl fstep (f, g)).1.length ≤ f.length + 2 * u.length
  | [], f, g => by simp
  | c :: r, f, g => by
    rw [List.foldl_cons]
    by_cases hc : c = 95
    · subst hc
      rw [fstep_us]
      have := fold_len r f (decide (f ≠ []))
      simp only [List.length_cons]; omega
    · rw [fstep_ne hc]
      have := fold_len r (f ++ (if g then [95] else []) ++ [c]) false
      have h2 : (if g = true then [95] else ([] : Tx)).length ≤ 1 := by cases g <;> simp
      simp only [List.length_append, List.length_cons, List.length_nil] at this ⊢
      omega
theorem nc_self {c : Nat} (h : okN1 c) : nc c = some c := by
  rcases h with h | rfl
  · unfold nc; rw [if_pos h]
  · decide
/-! other ways to write a name -/
inductive Alt : Tx → Tx → Prop
  | nil : Alt [] []
  | cons {c x : Nat} {d o : Tx} (hc : c ≠ 95) (hx : x = c ∨ x = uppC c) (h : Alt d o) : Alt (c :: d) (x :: o)
  | us {g : Tx} {d o : Tx} (hg : g ≠ []) (hb : ∀ c ∈ g, c ∈ B3) (h : Alt d o) : Alt (95 :: d) (g ++ o)
theorem Alt.snoc {c x : Nat} (hc : c ≠ 95) (hx : x = c ∨ x = uppC c) {d o : Tx} (h : Alt d o) : Alt (d ++ [c]) (o ++ [x]) := by
  induction h with
  | nil => exact .cons hc hx .nil
  | cons hc' hx' _ ih => exact .cons hc' hx' ih
  | us hg hb _ ih =>
    rw [List.append_assoc]
    exact .us hg hb ih
theorem Alt.snocU {g : Tx} (hg : g ≠ []) (hb : ∀ c ∈ g, c ∈ B3) {d o : Tx} (h : Alt d o) : Alt (d ++ [95]) (o ++ g) := by
  induction h with
  | nil => simpa using Alt.us hg hb .nil
  | cons hc' hx' _ ih => exact .cons hc' hx' ih
  | us hg hb _ ih =>
    rw [List.append_assoc]
    exact .us hg hb ih
theorem Alt.refl : ∀ (d : Tx), Alt d d
  | [] => .nil
  | c :: r => by
    by_cases h : c = 95
    · subst h
      exact Alt.us (g := [95]) (by simp) (by simp [B3]) (Alt.refl r)
    · exact .cons h (.inl rfl) (Alt.refl r)
def Seg (a o : Tx) : Prop := ∃ p b q, o = p ++ b ++ q ∧ (∀ c ∈ p, c ∈ B3) ∧ (∀ c ∈ q, c ∈ B3) ∧ Alt a b
theorem b3_47 : ∀ c ∈ B3, c ≠ 47 := by decide
theorem sp1_free {s : Nat} : ∀ {g acc r : Tx}, (∀ c ∈ g, c ≠ s) → sp1 s acc (g ++ r) = sp1 s (acc ++ g) r
  | [], acc, r, _ => by simp
  | c :: g, acc, r, h => by
    show (if c = s then _ else sp1 s (acc ++ [c]) (g ++ r)) = _
    rw [if_neg (h c List.mem_cons_self), sp1_free fun x hx => h x (List.mem_cons_of_mem _ hx)]
    simp
inductive All2 {α β : Type} (R : α → β → Prop) : List α → List β → Prop
  | nil : All2 R [] []
  | cons {a : α} {b : β} {as : List α} {bs : List β} (h : R a b) (t : All2 R as bs) : All2 R (a :: as) (b :: bs)
def okC1 (c : Nat) : Prop := okN1 c ∨ c = 47
theorem p36_upp : ∀ c ∈ P36, uppC c ≠ 47 ∧ c ≠ 47 := by decide
theorem sp1_alt {suf : Tx} (hs : ∀ c ∈ suf, c ∈ B3) : ∀ {d o : Tx}, Alt d o → (∀ c ∈ d, okC1 c) → ∀ {acc p b : Tx}, (∀ c ∈ p, c ∈ B3) → Alt acc b → All2 Seg (sp1 47 acc d) (sp1 47 (p ++ b) (o ++ suf)) := by
  intro d o h
  induction h with
  | nil =>
    intro _ acc p b hp hb
    have e : sp1 47 (p ++ b) ([] ++ suf) = [p ++ b ++ suf] := by
      have := sp1_free (s := 47) (g := suf) (acc := p ++ b) (r := []) fun c hc => b3_47 c (hs c hc)
      simpa [sp1] using this
    rw [e]
    exact .cons ⟨p, b, suf, rfl, hp, hs, hb⟩ .nil
  | @cons c x d o hc hx h ih =>
    intro hd acc p b hp hb
    have hd' := fun y hy => hd y (List.mem_cons_of_mem _ hy)
    by_cases h47 : c = 47
    · subst h47
      have hx' : x = 47 := by rcases hx with rfl | rfl <;> decide
      subst hx'
      show All2 Seg (if 47 = 47 then _ else _) (if 47 = 47 then _ else _)
      rw [if_pos rfl, if_pos rfl]
      exact .cons ⟨p, b, [], by simp, hp, by simp, hb⟩ (ih hd' (acc := []) (p := []) (b := []) (by simp) .nil)
    · have hcp : c ∈ P36 := by
        rcases hd c List.mem_cons_self with (h | h) | h
        · exact h
        · exact absurd h hc
        · exact absurd h h47
      have hx47 : x ≠ 47 := by
        rcases hx with rfl | rfl
        · exact h47
        · exact (p36_upp c hcp).1
      show All2 Seg (if c = 47 then _ else sp1 47 (acc ++ [c]) d) (if x = 47 then _ else sp1 47 (p ++ b ++ [x]) (o ++ suf))
      rw [if_neg h47, if_neg hx47, List.append_assoc]
      exact ih hd' hp (hb.snoc hc hx)
  | @us g d o hg hgb h ih =>
    intro hd acc p b hp hb
    have hd' := fun y hy => hd y (List.mem_cons_of_mem _ hy)
    show All2 Seg (if 95 = 47 then _ else sp1 47 (acc ++ [95]) d) _
    rw [if_neg (by decide), List.append_assoc, sp1_free fun c hc => b3_47 c (hgb c hc), List.append_assoc]
    exact ih hd' hp (hb.snocU hg hgb)
theorem ncs_cons (c : Nat) (r : Tx) : ncs (c :: r) = match nc c, ncs r with
    | some x, some u => some (x :: u)
    | _, _ => none := rfl
theorem ncs_append : ∀ {a b : Tx}, ncs (a ++ b) = (ncs a).bind fun u => (ncs b).map (u ++ ·)
  | [], b => by simp [ncs]
  | c :: a, b => by
    rw [List.cons_append, ncs_cons, ncs_cons, ncs_append (a := a)]
    cases nc c <;> cases ncs a <;> cases ncs b <;> rfl
theorem ncs_b3 : ∀ {g : Tx}, (∀ c ∈ g, c ∈ B3) → ncs g = some (List.replicate g.length 95)
  | [], _ => rfl
  | c :: g, h => by
    have : ∀ c ∈ B3, nc c = some 95 := by decide
    unfold ncs
    rw [this c (h c List.mem_cons_self), ncs_b3 fun x hx => h x (List.mem_cons_of_mem _ hx)]
    rfl
theorem rep_step : ∀ (n : Nat) (f : Tx) (g : Bool), (List.replicate (n + 1) 95).foldl fstep (f, g) = (f, decide (f ≠ []))
  | 0, f, g => rfl
  | n + 1, f, g => by
    rw [List.replicate_succ, List.foldl_cons]
    exact rep_step n f _
theorem nc_upp : ∀ c ∈ P36, nc (uppC c) = some c := by decide
theorem alt_norm {d o : Tx} (h : Alt d o) : (∀ c ∈ d, okN1 c) → ∃ u, ncs o = some u ∧ ∀ z, u.foldl fstep z = d.foldl fstep z := by
  induction h with
  | nil => exact fun _ => ⟨[], rfl, fun _ => rfl⟩
  | @cons c x d o hc hx h ih =>
    intro hd
    obtain ⟨u, e, f⟩ := ih fun y hy => hd y (List.mem_cons_of_mem _ hy)
    have hcp : c ∈ P36 := (hd c List.mem_cons_self).resolve_right hc
    have hn : nc x = some c := by
      rcases hx with rfl | rfl
      · exact nc_self (.inl hcp)
      · exact nc_upp c hcp
    refine ⟨c :: u, ?_, fun z => by rw [List.foldl_cons, List.foldl_cons, f]⟩
    unfold ncs
    rw [hn, e]
  | @us g d o hg hgb h ih =>
    intro hd
    obtain ⟨u, e, f⟩ := ih fun y hy => hd y (List.mem_cons_of_mem _ hy)
    refine ⟨List.replicate g.length 95 ++ u, by rw [ncs_append, ncs_b3 hgb, e]; rfl, fun z => ?_⟩
    rw [List.foldl_append, List.foldl_cons]
    obtain ⟨n, hn⟩ : ∃ n, g.length = n + 1 := ⟨g.length - 1, by have := List.length_pos_iff.mpr hg; omega⟩
    obtain ⟨a, b⟩ := z
    rw [hn, rep_step, f]
    rfl
theorem rep_fst (n : Nat) (z : Tx × Bool) : ((List.replicate n 95).foldl fstep z).1 = z.1 := by
  cases n with
  | zero => rfl
  | succ n => obtain ⟨a, b⟩ := z; rw [rep_step]
theorem rep_nil (n : Nat) : (List.replicate n 95).foldl fstep ([], false) = ([], false) := by
  cases n with
  | zero => rfl
  | succ n => rw [rep_step]; rfl
/-- a segment written otherwise -/
theorem seg_alt {d o : Tx} (h : Seg d o) (hd : ∀ c ∈ d, okN1 c) : segD o = segD d := by
  obtain ⟨p, b, q, rfl, hp, hq, ha⟩ := h
  obtain ⟨u, e, f⟩ := alt_norm ha hd
  obtain ⟨u', e', f'⟩ := alt_norm (Alt.refl d) hd
  have h1 : ncs (p ++ b ++ q) = some (List.replicate p.length 95 ++ u ++ List.replicate q.length 95) := by
    rw [ncs_append, ncs_append, ncs_b3 hp, ncs_b3 hq, e]; rfl
  unfold segD
  rw [h1, e']
  have h2 : fold (List.replicate p.length 95 ++ u ++ List.replicate q.length 95) = fold u' := by
    unfold fold
    rw [List.foldl_append, List.foldl_append, rep_nil, rep_fst, f, f']
  show sgN _ = sgN _
  unfold sgN
  rw [h2]
theorem ncs_self : ∀ {d : Tx}, (∀ c ∈ d, okN1 c) → ncs d = some d
  | [], _ => rfl
  | c :: r, h => by
    unfold ncs
    rw [nc_self (h c List.mem_cons_self), ncs_self fun x hx => h x (List.mem_cons_of_mem _ hx)]
theorem segD_str {t s : Tx} (h : segD t = .str s) : (∀ c ∈ s, okN1 c) ∧ segD s = .str s ∧ s.length ≤ 2 * t.length := by
  unfold segD at h
  cases e : ncs t with
  | none => rw [e] at h; cases h
  | some u =>
    rw [e] at h
    have h1 : sgN u = .str s := h
    unfold sgN at h1
    split at h1
    · cases h1
    · rename_i hne
      cases h1
      obtain ⟨o1, o2⟩ := ncs_ok e
      have hok : ∀ c ∈ fold u, okN1 c := fold_ok u [] false o1 (by simp)
      refine ⟨hok, ?_, ?_⟩
      · unfold segD
        rw [ncs_self hok]
        show sgN (fold u) = _
        have : fold (fold u) = fold u := by
          have := fold_fold u
          unfold fold at this ⊢
          rw [this]
        unfold sgN
        rw [this, if_neg hne]
      · have := fold_len u [] false
        rw [o2] at this
        simpa [fold] using this
theorem unStr_map : ∀ (ss : List Tx), unStr (ss.map .str) = some ss
  | [] => rfl
  | s :: r => by
    show (unStr (r.map .str)).map (s :: ·) = _
    rw [unStr_map r]; rfl
theorem unStr_eq : ∀ {xs : List D} {ss : List Tx}, unStr xs = some ss → xs = ss.map .str
  | [], ss, h => by cases h; rfl
  | x :: xs, ss, h => by
    cases x <;> first | (cases h; done) | skip
    rename_i s
    cases e : unStr xs with
    | none =>
      have h' : (unStr xs).map (s :: ·) = some ss := h
      rw [e] at h'; cases h'
    | some r =>
      have h' : (unStr xs).map (s :: ·) = some ss := h
      rw [e] at h'; cases h'
      rw [unStr_eq e]; rfl
theorem sp1_ne (s : Nat) : ∀ (l acc : Tx), sp1 s acc l ≠ []
  | [], acc => by simp [sp1]
  | c :: r, acc => by
    unfold sp1
    split
    · simp
    · exact sp1_ne s r _
theorem all2_map {R : Tx → Tx → Prop} {f : Tx → D} (h : ∀ a b, R a b → f b = f a) : ∀ {as bs : List Tx}, All2 R as bs → bs.map f = as.map f
  | _, _, .nil => rfl
  | _, _, .cons r t => by
    simp only [List.map_cons]
    rw [h _ _ r, all2_map h t]
theorem all2_mem {R : Tx → Tx → Prop} {P : Tx → Prop} : ∀ {as bs : List Tx}, All2 R as bs → (∀ a ∈ as, P a) → All2 (fun a b => R a b ∧ P a) as bs
  | _, _, .nil, _ => .nil
  | _, _, .cons r t, h => .cons ⟨r, h _ List.mem_cons_self⟩ (all2_mem t fun a ha => h a (List.mem_cons_of_mem _ ha))
theorem okC1_of {ss : List Tx} (h : ∀ s ∈ ss, ∀ c ∈ s, okN1 c) : ∀ c ∈ TL.joinL [47] ss, okC1 c := by
  induction ss with
  | nil => intro c hc; cases hc
  | cons s r ih =>
    cases r with
    | nil => intro c hc; exact .inl (h s List.mem_cons_self c hc)
    | cons q r =>
      intro c hc
      have hc' : c ∈ s ++ ([47] ++ TL.joinL [47] (q :: r)) := hc
      rcases List.mem_append.mp hc' with hc | hc
      · exact .inl (h s List.mem_cons_self c hc)
      · rcases List.mem_append.mp hc with hc | hc
        · exact .inr (by simpa using hc)
        · exact ih (fun s hs => h s (List.mem_cons_of_mem _ hs)) c hc
/-- THE LAW: a name written otherwise is the same name -/
theorem name_alt {t d o pre suf : Tx} (h : nameD t = .str d) (ha : Alt d o) (hp : ∀ c ∈ pre, c ∈ B3) (hs : ∀ c ∈ suf, c ∈ B3) : nameD (pre ++ o ++ suf) = .str d := by
  unfold nameD joinO at h
  cases e : unStr ((sp1 47 [] t).map segD) with
  | none => rw [e] at h; cases h
  | some ss =>
    rw [e] at h
    dsimp only at h
    split at h
    · cases h
    · rename_i hb
      cases h
      have e1 := unStr_eq e
      have hss : ss ≠ [] := fun z => by
        rw [z] at e1
        exact sp1_ne 47 t [] (List.map_eq_nil_iff.mp e1)
      have hseg : ∀ s ∈ ss, (∀ c ∈ s, okN1 c) ∧ segD s = .str s := fun s hs => by
        have : D.str s ∈ (sp1 47 [] t).map segD := by rw [e1]; exact List.mem_map.mpr ⟨s, hs, rfl⟩
        obtain ⟨t', _, e2⟩ := List.mem_map.mp this
        exact ⟨(segD_str e2).1, (segD_str e2).2.1⟩
      have h47 : ∀ s ∈ ss, (47 : Nat) ∉ s := fun s hs hm => by
        rcases (hseg s hs).1 47 hm with h | h
        · exact absurd h (by decide)
        · exact absurd h (by decide)
      have hsp : sp1 47 [] (TL.joinL [47] ss) = ss := by
        rw [← spl1]
        exact TL.spl_join hss h47
      have hA := sp1_alt hs ha (okC1_of fun s hs => (hseg s hs).1) (acc := []) (p := pre) (b := []) hp .nil
      rw [hsp, List.append_nil] at hA
      have hsp2 : sp1 47 [] (pre ++ o ++ suf) = sp1 47 pre (o ++ suf) := by
        rw [List.append_assoc, sp1_free fun c hc => b3_47 c (hp c hc)]
        rfl
      have hm : (sp1 47 [] (pre ++ o ++ suf)).map segD = ss.map segD := by
        rw [hsp2]
        exact all2_map (R := fun a b => Seg a b ∧ ∀ c ∈ a, okN1 c) (fun a b h => seg_alt h.1 h.2) (all2_mem hA fun s hs => (hseg s hs).1)
      have hm2 : ss.map segD = ss.map .str := List.map_congr_left fun s hs => (hseg s hs).2
      unfold nameD joinO
      rw [hm, hm2, unStr_map]
      dsimp only
      rw [if_neg hb]
end Vx

set_option maxHeartbeats 400000
namespace Vx
open PySem L2
/-! rows joined are split as they were -/
theorem sp1_app {s : Nat} : ∀ (a acc b : Tx), sp1 s acc (a ++ s :: b) = sp1 s acc a ++ sp1 s [] b
  | [], acc, b => by
    show (if s = s then acc :: sp1 s [] b else _) = _
    rw [if_pos rfl]
    rfl
  | c :: a, acc, b => by
    show (if c = s then acc :: sp1 s [] (a ++ s :: b) else sp1 s (acc ++ [c]) (a ++ s :: b)) = (if c = s then acc :: sp1 s [] a else sp1 s (acc ++ [c]) a) ++ _
    split
    · rw [sp1_app a [] b]; rfl
    · rw [sp1_app a (acc ++ [c]) b]
theorem sp1_one {s : Nat} {r : Tx} (h : ∀ c ∈ r, c ≠ s) : sp1 s [] r = [r] := by
  have := sp1_free (s := s) (g := r) (acc := []) (r := []) h
  rw [List.append_nil, List.nil_append] at this
  rw [this]
  rfl
theorem sp1_joins {s : Nat} : ∀ {ys : List Tx}, ys ≠ [] → sp1 s [] (TL.joinL [s] ys) = (ys.map (sp1 s [])).flatten
  | [], h => absurd rfl h
  | [p], _ => by simp [TL.joinL]
  | p :: q :: r, _ => by
    show sp1 s [] (p ++ s :: TL.joinL [s] (q :: r)) = _
    rw [sp1_app, sp1_joins (ys := q :: r) (by simp)]
    rfl
theorem sp1_join {s : Nat} {rows : List Tx} (h : ∀ r ∈ rows, ∀ c ∈ r, c ≠ s) (hn : rows ≠ []) : sp1 s [] (TL.joinL [s] rows) = rows := by
  rw [sp1_joins hn]
  have : rows.map (sp1 s []) = rows.map fun r => [r] := List.map_congr_left fun r hr => sp1_one (h r hr)
  rw [this]
  clear this h hn
  induction rows with
  | nil => rfl
  | cons r rows ih => simpa using ih
end Vx

set_option maxHeartbeats 400000
namespace Vx
open PySem L2
/-! names of letters, figures and slashes alone -/
def gd : Bool → Tx → Bool
  | b, [] => !b
  | b, c :: r => if c = 47 then !b && gd true r else decide (c ∈ P36) && gd false r
def pgd : Bool → Tx → Bool
  | _, [] => true
  | b, c :: r => if c = 47 then !b && pgd true r else decide (c ∈ P36) && pgd false r
theorem gd_pre : ∀ (s : Tx) (b : Bool) (n : Nat), gd b s = true → pgd b (s.take n) = true
  | [], b, n, _ => by simp [pgd]
  | c :: r, b, 0, _ => by simp [pgd]
  | c :: r, b, n + 1, h => by
    rw [List.take_succ_cons]
    unfold gd at h
    unfold pgd
    split
    · rename_i q
      rw [if_pos q] at h
      simp only [Bool.and_eq_true] at h ⊢
      exact ⟨h.1, gd_pre r true n h.2⟩
    · rename_i q
      rw [if_neg q] at h
      simp only [Bool.and_eq_true] at h ⊢
      exact ⟨h.1, gd_pre r false n h.2⟩
theorem pgd_cases : ∀ (s : Tx) (b : Bool), pgd b s = true → s = [] ∨ gd b s = true ∨ ∃ s', s = s' ++ [47] ∧ gd b s' = true
  | [], b, _ => .inl rfl
  | c :: r, b, h => by
    unfold pgd at h
    split at h
    · rename_i q
      subst q
      simp only [Bool.and_eq_true] at h
      rcases pgd_cases r true h.2 with rfl | g | ⟨s', rfl, g⟩
      · exact .inr (.inr ⟨[], rfl, by simp [gd, h.1]⟩)
      · exact .inr (.inl (by simp only [gd, if_true, Bool.and_eq_true]; exact ⟨h.1, g⟩))
      · exact .inr (.inr ⟨47 :: s', rfl, by simp only [gd, if_true, Bool.and_eq_true]; exact ⟨h.1, g⟩⟩)
    · rename_i q
      simp only [Bool.and_eq_true] at h
      rcases pgd_cases r false h.2 with rfl | g | ⟨s', rfl, g⟩
      · exact .inr (.inl (by unfold gd; rw [if_neg q]; simp only [Bool.and_eq_true]; exact ⟨h.1, rfl⟩))
      · exact .inr (.inl (by unfold gd; rw [if_neg q]; simp only [Bool.and_eq_true]; exact ⟨h.1, g⟩))
      · exact .inr (.inr ⟨c :: s', rfl, by unfold gd; rw [if_neg q]; simp only [Bool.and_eq_true]; exact ⟨h.1, g⟩⟩)
theorem gd_last : ∀ (s : Tx) (b : Bool), gd b s = true → s = [] ∨ ∃ s' c, s = s' ++ [c] ∧ c ≠ 47
  | [], b, _ => .inl rfl
  | c :: r, b, h => by
    unfold gd at h
    split at h
    · simp only [Bool.and_eq_true] at h
      rcases gd_last r true h.2 with rfl | ⟨s', d, rfl, e⟩
      · have := h.2
        simp [gd] at this
      · exact .inr ⟨c :: s', d, rfl, e⟩
    · rename_i q
      simp only [Bool.and_eq_true] at h
      rcases gd_last r false h.2 with rfl | ⟨s', d, rfl, e⟩
      · exact .inr ⟨[], c, rfl, q⟩
      · exact .inr ⟨c :: s', d, rfl, e⟩
theorem p36_47 : ∀ c ∈ P36, c ≠ 47 := by decide
theorem gd_app : ∀ (s : Tx) (b : Bool) (t : Tx), gd b (s ++ 47 :: t) = (gd b s && gd true t)
  | [], b, t => by simp [gd]
  | c :: r, b, t => by
    show (if c = 47 then !b && gd true (r ++ 47 :: t) else decide (c ∈ P36) && gd false (r ++ 47 :: t)) = ((if c = 47 then !b && gd true r else decide (c ∈ P36) && gd false r) && gd true t)
    split
    · rw [gd_app r true t, Bool.and_assoc]
    · rw [gd_app r false t, Bool.and_assoc]
theorem gd_more : ∀ (s p : Tx) (b : Bool), (s ≠ [] ∨ b = false ∨ p ≠ []) → (gd b s = true ∨ s = []) → (∀ c ∈ p, c ∈ P36) → gd b (s ++ p) = true
  | [], [], b, h, _, _ => by
    rcases h with h | h | h
    · exact absurd rfl h
    · subst h; rfl
    · exact absurd rfl h
  | [], c :: p, b, _, _, hp => by
    rw [List.nil_append]
    have hc := hp c List.mem_cons_self
    unfold gd
    rw [if_neg (p36_47 c hc)]
    simp only [Bool.and_eq_true, decide_eq_true_eq]
    exact ⟨hc, gd_more [] p false (.inr (.inl rfl)) (.inr rfl) fun x hx => hp x (List.mem_cons_of_mem _ hx)⟩
  | c :: r, p, b, _, h, hp => by
    have h : gd b (c :: r) = true := h.resolve_right (by simp)
    rw [List.cons_append]
    unfold gd at h ⊢
    split
    · rename_i q
      rw [if_pos q] at h
      simp only [Bool.and_eq_true] at h ⊢
      refine ⟨h.1, gd_more r p true ?_ (.inl h.2) hp⟩
      left
      intro z
      have := h.2
      rw [z] at this
      simp [gd] at this
    · rename_i q
      rw [if_neg q] at h
      simp only [Bool.and_eq_true] at h ⊢
      exact ⟨h.1, gd_more r p false (.inr (.inl rfl)) (.inl h.2) hp⟩
theorem gd_word {w : Tx} (h : w ≠ []) (hw : ∀ c ∈ w, c ∈ P36) : gd true w = true := by
  have := gd_more [] w true (.inr (.inr h)) (.inr rfl) hw
  simpa using this
def Word (w : Tx) : Prop := w ≠ [] ∧ ∀ c ∈ w, c ∈ P36
theorem gd_join : ∀ {ws : List Tx}, ws ≠ [] → (∀ w ∈ ws, Word w) → gd true (TL.joinL [47] ws) = true
  | [], h, _ => absurd rfl h
  | [w], _, h => gd_word (h w List.mem_cons_self).1 (h w List.mem_cons_self).2
  | w :: x :: r, _, h => by
    show gd true (w ++ 47 :: TL.joinL [47] (x :: r)) = true
    rw [gd_app, gd_word (h w List.mem_cons_self).1 (h w List.mem_cons_self).2, gd_join (by simp) fun y hy => h y (List.mem_cons_of_mem _ hy)]
    rfl
theorem gd_words : ∀ (s acc : Tx) (b : Bool), gd b s = true → (acc = [] ↔ b = true) → (∀ c ∈ acc, c ∈ P36) → ∀ w ∈ sp1 47 acc s, Word w
  | [], acc, b, h, ha, hp, w, hw => by
    rw [show sp1 47 acc [] = [acc] from rfl, List.mem_singleton] at hw
    subst hw
    refine ⟨fun z => ?_, hp⟩
    rw [ha.mp z] at h
    cases h
  | c :: r, acc, b, h, ha, hp, w, hw => by
    unfold gd at h
    have hw' : w ∈ (if c = 47 then acc :: sp1 47 [] r else sp1 47 (acc ++ [c]) r) := hw
    split at hw'
    · rename_i q
      rw [if_pos q] at h
      simp only [Bool.and_eq_true] at h
      rcases List.mem_cons.mp hw' with rfl | hw'
      · refine ⟨fun z => ?_, hp⟩
        have := h.1
        rw [ha.mp z] at this
        cases this
      · exact gd_words r [] true h.2 (by simp) (by simp) w hw'
    · rename_i q
      rw [if_neg q] at h
      simp only [Bool.and_eq_true, decide_eq_true_eq] at h
      refine gd_words r (acc ++ [c]) false h.2 (by simp) (fun x hx => ?_) w hw'
      rcases List.mem_append.mp hx with hx | hx
      · exact hp x hx
      · rw [List.mem_singleton.mp hx]; exact h.1
theorem gd_chars {s : Tx} : ∀ {b : Bool}, gd b s = true → ∀ c ∈ s, c ∈ P36 ∨ c = 47 := by
  induction s with
  | nil => intro b _ c hc; cases hc
  | cons x r ih =>
    intro b h c hc
    unfold gd at h
    split at h
    · rename_i q
      simp only [Bool.and_eq_true] at h
      rcases List.mem_cons.mp hc with rfl | hc
      · exact .inr q
      · exact ih h.2 c hc
    · simp only [Bool.and_eq_true, decide_eq_true_eq] at h
      rcases List.mem_cons.mp hc with rfl | hc
      · exact .inl h.1
      · exact ih h.2 c hc
theorem sp1_back : ∀ (t acc : Tx), TL.joinL [47] (sp1 47 acc t) = acc ++ t
  | [], acc => by simp [sp1, TL.joinL]
  | c :: r, acc => by
    show TL.joinL [47] (if c = 47 then acc :: sp1 47 [] r else sp1 47 (acc ++ [c]) r) = _
    split
    · rename_i q
      subst q
      have h := sp1_back r []
      cases e : sp1 47 [] r with
      | nil => exact absurd e (sp1_ne 47 r [])
      | cons x y =>
        rw [e] at h
        show acc ++ 47 :: TL.joinL [47] (x :: y) = _
        rw [h]
        rfl
    · rw [sp1_back r (acc ++ [c])]
      simp
theorem sp1_num : ∀ (t acc : Tx), (sp1 47 acc t).length = t.count 47 + 1
  | [], acc => rfl
  | c :: r, acc => by
    show (if c = 47 then acc :: sp1 47 [] r else sp1 47 (acc ++ [c]) r).length = _
    rw [List.count_cons]
    split
    · rename_i q
      subst q
      simp [sp1_num r []]
    · rename_i q
      rw [sp1_num r (acc ++ [c])]
      simp [q]
theorem p36_95 : ∀ c ∈ P36, c ≠ 95 := by decide
theorem fold_plain : ∀ (w f : Tx), (∀ c ∈ w, c ∈ P36) → w.foldl fstep (f, false) = (f ++ w, false)
  | [], f, _ => by simp
  | c :: r, f, h => by
    rw [List.foldl_cons, fstep_ne (p36_95 c (h c List.mem_cons_self))]
    have := fold_plain r (f ++ (if false = true then [95] else []) ++ [c]) fun x hx => h x (List.mem_cons_of_mem _ hx)
    simp only [Bool.false_eq_true, if_false, List.append_nil] at this ⊢
    rw [this]
    simp
theorem seg_word {w : Tx} (h : Word w) : segD w = .str w := by
  unfold segD
  rw [ncs_self fun c hc => .inl (h.2 c hc)]
  show sgN w = _
  unfold sgN fold
  rw [fold_plain w [] h.2, List.nil_append, if_neg h.1]
theorem name_good {s : Tx} (h : gd true s = true) : nameD s = if 3 < s.count 47 ∨ 24 < s.length then .non else .str s := by
  have hw := gd_words s [] true h (by simp) (by simp)
  have e : (sp1 47 [] s).map segD = (sp1 47 [] s).map .str := List.map_congr_left fun w hm => seg_word (hw w hm)
  unfold nameD joinO
  rw [e, unStr_map]
  dsimp only
  rw [sp1_back, List.nil_append, sp1_num]
  by_cases q : 3 < s.count 47 ∨ 24 < s.length
  · rw [if_pos q, if_pos (by omega)]
  · rw [if_neg q, if_neg (by omega)]
structure Nm (s : Tx) : Prop where
  g : gd true s = true
  n : s.count 47 ≤ 3
  l : s.length ≤ 24
theorem Nm.name {s : Tx} (h : Nm s) : nameD s = .str s := by
  rw [name_good h.g, if_neg (by have := h.n; have := h.l; omega)]
theorem Nm.ne {s : Tx} (h : Nm s) : s ≠ [] := fun z => by
  have := h.g
  rw [z] at this
  cases this
/-! what is made of names -/
theorem tl_mk (s : Tx) : TL.tl ⟨s.toArray⟩ = s := by simp [TL.tl]
theorem rstrip_eq (s : Tx) : TL.tl (PySem.Txt.rstripChars ⟨s.toArray⟩ ⟨[47].toArray⟩) = s.take (s.length - (s.reverse.takeWhile fun c => ([47] : Tx).toArray.contains c).length) := by
  unfold PySem.Txt.rstripChars
  rw [PyProof.Rows.stripBy_eq, TL.tl_strSub, tl_mk]
  show (List.take (s.length - ((s.drop 0).reverse.takeWhile fun c => ([47] : Tx).toArray.contains c).length - 0) (List.drop 0 s)) = _
  simp only [Nat.sub_zero, List.drop_zero]
theorem rstrip_same {s' : Tx} {c : Nat} (h : c ≠ 47) : TL.tl (PySem.Txt.rstripChars ⟨(s' ++ [c]).toArray⟩ ⟨[47].toArray⟩) = s' ++ [c] := by
  rw [rstrip_eq, List.reverse_append]
  simp [List.takeWhile_cons, h, List.take_append, List.take_of_length_le]
theorem rstrip_one {s' : Tx} {c : Nat} (h : c ≠ 47) : TL.tl (PySem.Txt.rstripChars ⟨(s' ++ [c] ++ [47]).toArray⟩ ⟨[47].toArray⟩) = s' ++ [c] := by
  rw [rstrip_eq, List.reverse_append, List.reverse_append]
  simp [List.takeWhile_cons, h, List.take_append, List.take_of_length_le]
/-- before the last slash -/
theorem rpart_ok {s : Tx} (h : Nm s) (hs : 47 ∈ s) : Nm (TL.tl (PySem.Txt.rpartition ⟨s.toArray⟩ ⟨[47].toArray⟩).1) := by
  unfold PySem.Txt.rpartition
  have at_ : ∀ i, PySem.StrLaws.At ⟨s.toArray⟩ ⟨[47].toArray⟩ (⟨s.toArray⟩ : PySem.Str).length i ↔ s[i]? = some 47 := fun i => by
    have := PySem.StrLaws.subAt_one ⟨s.toArray⟩ 47 i
    exact this
  rcases StrLaws.last_spec (⟨s.toArray⟩ : PySem.Str) ⟨[47].toArray⟩ with ⟨h0, hn⟩ | ⟨i, h0, hi, _⟩
  · obtain ⟨i, hi⟩ := List.getElem?_of_mem hs
    exact absurd ((at_ i).mpr hi) (hn i)
  · rw [h0]
    dsimp only
    rw [TL.tl_strSub, tl_mk, List.drop_zero, Nat.sub_zero]
    have h1 := (at_ i).mp hi
    obtain ⟨hl, he⟩ := List.getElem?_eq_some_iff.mp h1
    have e : s = s.take i ++ 47 :: s.drop (i + 1) := by
      rw [← he, ← List.drop_eq_getElem_cons hl, List.take_append_drop]
    have g := h.g
    rw [e, gd_app] at g
    simp only [Bool.and_eq_true] at g
    refine ⟨g.1, ?_, ?_⟩
    · exact Nat.le_trans ((List.take_sublist i s).count_le 47) h.n
    · have := List.length_take_le' i s
      have := h.l
      omega
/-- cut off at 24 signs -/
theorem rstrip_ok {s : Tx} (g : gd true s = true) (hn : s.count 47 ≤ 3) : Nm (TL.tl (PySem.Txt.rstripChars ⟨(s.take 24).toArray⟩ ⟨[47].toArray⟩)) := by
  have hc : (s.take 24).count 47 ≤ 3 := Nat.le_trans ((List.take_sublist 24 s).count_le 47) hn
  have hl := List.length_take_le 24 s
  have h0 : s.take 24 ≠ [] := by
    cases s with
    | nil => cases g
    | cons a b => simp
  have hp := gd_pre s true 24 g
  generalize s.take 24 = t at *
  rcases pgd_cases t true hp with h | h | ⟨s', rfl, h⟩
  · exact absurd h h0
  · rcases gd_last t true h with h' | ⟨s', c, rfl, hne⟩
    · exact absurd h' h0
    · rw [rstrip_same hne]
      exact ⟨h, hc, hl⟩
  · rcases gd_last s' true h with rfl | ⟨s2, c, rfl, hne⟩
    · cases h
    · rw [rstrip_one hne]
      refine ⟨h, ?_, ?_⟩
      · rw [List.count_append] at hc
        omega
      · rw [List.length_append] at hl
        omega
theorem join_ok {ws : List Tx} (h0 : ws ≠ []) (h : ∀ w ∈ ws, Word w) (hn : ws.length ≤ 4) : gd true (TL.joinL [47] ws) = true ∧ (TL.joinL [47] ws).count 47 ≤ 3 := by
  refine ⟨gd_join h0 h, ?_⟩
  have e := sp1_num (TL.joinL [47] ws) []
  rw [sp1_join (fun w hw c hc => p36_47 c ((h w hw).2 c hc)) h0] at e
  omega
theorem first_ok {s m : Tx} (hs : Nm s) (hm : gd true m = true) : gd true (TL.joinL [47] ((sp1 47 [] (s ++ 47 :: m)).take 4)) = true ∧ (TL.joinL [47] ((sp1 47 [] (s ++ 47 :: m)).take 4)).count 47 ≤ 3 := by
  have g : gd true (s ++ 47 :: m) = true := by rw [gd_app, hs.g, hm]; rfl
  have hw := gd_words _ [] true g (by simp) (by simp)
  refine join_ok (fun z => ?_) (fun w hm => hw w (List.mem_of_mem_take hm)) (by simp; omega)
  have := sp1_ne 47 (s ++ 47 :: m) []
  cases e : sp1 47 [] (s ++ 47 :: m) with
  | nil => exact this e
  | cons a b => rw [e] at z; cases z
theorem more_ok {s p : Tx} (hs : Nm s) (hp : ∀ c ∈ p, c ∈ P36) : Nm ((s ++ p).take 24) := by
  have hl := hs.l
  have e : (s ++ p).take 24 = s ++ p.take (24 - s.length) := by
    rw [List.take_append, List.take_of_length_le hl]
  rw [e]
  refine ⟨gd_more s _ true (.inl hs.ne) (.inl hs.g) fun c hc => hp c (List.mem_of_mem_take hc), ?_, ?_⟩
  · rw [List.count_append]
    have : (p.take (24 - s.length)).count 47 = 0 := List.count_eq_zero.mpr fun z => p36_47 47 (hp 47 (List.mem_of_mem_take z)) rfl
    have := hs.n
    omega
  · rw [List.length_append]
    have := List.length_take_le (24 - s.length) p
    omega
/-! of a family -/
def inF (a b : Tx) : Bool := TL.pre (b ++ [47]) (a ++ [47])
theorem inF_eq (a b : Tx) : inF a b = (a == b || a.take (b.length + 1) == b ++ [47]) := by
  show ((a ++ [47]).take (b ++ [47]).length == b ++ [47]) = _
  rw [List.length_append, List.length_singleton]
  by_cases h1 : b.length + 1 ≤ a.length
  · rw [List.take_append_of_le_length h1]
    have : (a == b) = false := by
      rw [beq_eq_false_iff_ne]
      intro z
      rw [z] at h1
      omega
    rw [this, Bool.false_or]
  · by_cases h2 : a.length = b.length
    · rw [List.take_of_length_le (by simp; omega), List.take_of_length_le (by omega)]
      have h3 : (a == b ++ [47]) = false := by
        rw [beq_eq_false_iff_ne]
        intro z
        rw [z] at h2
        simp at h2
      rw [h3, Bool.or_false]
      by_cases q : a = b
      · subst q; simp
      · have h4 : (a == b) = false := by simpa using q
        have h5 : (a ++ [47] == b ++ [47]) = false := by simpa using q
        rw [h4, h5]
    · have h3 : (a == b) = false := by
        rw [beq_eq_false_iff_ne]
        exact fun z => h2 (by rw [z])
      have h4 : (a.take (b.length + 1) == b ++ [47]) = false := by
        rw [beq_eq_false_iff_ne]
        intro z
        have := congrArg List.length z
        simp at this
        omega
      have h5 : ((a ++ [47]).take (b.length + 1) == b ++ [47]) = false := by
        rw [beq_eq_false_iff_ne]
        intro z
        have := congrArg List.length z
        simp at this
        omega
      rw [h3, h4, h5]
      rfl
theorem moved_good {name stem new : Tx} (h1 : Nm name) (h3 : gd true new = true) (h : inF name stem = true) : gd true (new ++ name.drop stem.length) = true := by
  rw [inF_eq] at h
  rcases Bool.or_eq_true_iff.mp h with h | h
  · have e : name = stem := by simpa using h
    rw [e, List.drop_length, List.append_nil]
    exact h3
  · have e : name.take (stem.length + 1) = stem ++ [47] := by simpa using h
    have e2 : name = stem ++ 47 :: name.drop (stem.length + 1) := by
      have := List.take_append_drop (stem.length + 1) name
      rw [e] at this
      rw [List.append_assoc] at this
      exact this.symm
    have e3 : name.drop stem.length = 47 :: name.drop (stem.length + 1) := by
      have := congrArg (List.drop stem.length) e2
      rw [List.drop_left] at this
      exact this
    have g := h1.g
    rw [e2, gd_app] at g
    simp only [Bool.and_eq_true] at g
    rw [e3, gd_app, h3, g.2]
    rfl
end Vx

set_option maxHeartbeats 400000
namespace Vx
open PySem L2
noncomputable abbrev cl (k f : Nat) (ws : List W) (fx l : Loc) : Res W := Vx.call pg.subF pg.dfs k f ws fx l
noncomputable abbrev CL (k : Nat) : Nat → List W → Loc → Loc → Res W := Vx.call pg.subF pg.dfs k
noncomputable def CF (k : Nat) : Cf := cfK pg.subF pg.dfs k
@[simp] theorem CF_fn (k : Nat) : (CF k).fn = CL k := rfl
@[simp] theorem CF_sub (k : Nat) : (CF k).sub = pg.subF := rfl
theorem CF_ask (k : Nat) : (CF k).ask = ask pg.subF pg.dfs (CL k) := rfl
theorem cl_eq {k f : Nat} {df : Def} {ws : List W} {fx l : Loc} (e : pg.dfs[f]? = some df) (h : ws.length = df.np) : cl (k + 1) f ws fx l = (evSs (CF k) fx df.body (startE df.nl ws) l).res := by
  show (match pg.dfs[f]? with
    | some df => if ws.length = df.np then (evSs (CF k) fx df.body (startE df.nl ws) l).res else .bad
    | none => .bad) = _
  rw [e]
  dsimp only
  rw [if_pos h]
theorem pos_of {k : Nat} (h : 1 ≤ k) : ∃ j, k = j + 1 := ⟨k - 1, by omega⟩
/-- the generator's state at n -/
def VS (l : Loc) (n : Nat) : Prop := ∃ a b c : Int, 0 ≤ a ∧ 0 ≤ c ∧ c < 4294967296 ∧ l[n]? = some (.lst [.d (.int a), .d (.int b), .d (.int c)])
theorem at0 {α : Type} (a b c : α) : atD [a, b, c] 0 = some a := rfl
theorem at1 {α : Type} (a b c : α) : atD [a, b, c] 1 = some b := rfl
theorem at2 {α : Type} (a b c : α) : atD [a, b, c] 2 = some c := rfl
theorem ix0 : ixn 3 0 = some 0 := rfl
theorem ix2 : ixn 3 2 = some 2 := rfl
theorem atn {α : Type} {xs : List α} {i : Int} (h0 : 0 ≤ i) (h : i < xs.length) : ∃ x, atD xs i = some x ∧ x ∈ xs := by
  have hj : i.toNat < xs.length := by omega
  refine ⟨xs[i.toNat], ?_, List.getElem_mem _⟩
  show (ixN xs.length i).bind _ = _
  unfold ixN
  rw [if_pos h0, if_pos h]
  exact List.getElem?_eq_getElem hj
theorem digit {k n : Nat} {l : Loc} {base : Int} (hk : 1 ≤ k) (h : VS l n) (hb : 0 < base) (hb2 : base < 1073741824) : ∃ d l', cl k f_law_digit [.r n, .d (.int base)] [] l = .ok (.d (.int d)) l' ∧ 0 ≤ d ∧ d < base ∧ VS l' n := by
  obtain ⟨k, rfl⟩ := pos_of hk
  obtain ⟨a, b, c, ha, hc, hc2, hl⟩ := h
  have hn : n < l.length := (List.getElem?_eq_some_iff.mp hl).1
  rw [cl_eq (df := d_law_digit) rfl rfl]
  by_cases h1 : b = 0 ∧ 0 < a
  · refine ⟨a % base, l.set n (.lst [.d (.int (a / base)), .d (.int b), .d (.int c)]), ?_, Int.emod_nonneg _ (by omega), Int.emod_lt_of_pos _ hb, ⟨a / base, b, c, Int.ediv_nonneg ha (by omega), hc, hc2, by simp [hn]⟩⟩
    obtain ⟨rfl, h1⟩ := h1
    simp [d_law_digit, evSs, evS, evE, evT, evL, evO, evC, Res.bind_ok, Res.bind_exc, Res.bind_bad, Res.out_ok, Res.out_exc, Res.out_bad, Out.thn_nx, Out.thn_rt, Out.thn_exc, Out.thn_bk, Out.thn_ct, ret_some, ret_none, idxW, op2W, pk, pkL, op2, eqO, okD, okL, eqD, eqL, cmpI, trW, trD, asgT, setMany, modD, fdivD, mulD, addD, subD, retO, setIW, put, Out.res, biD, isTy, smD, smW, rcv, unW, mkLst, isO, isNone, inO, inW, anyD, slD, itms, small62, wipeE, noExc, unStr, frzW, appW, CF_fn, CF_sub, startE, hl, at0, at1, at2, h1, hb, hb2, ix0]
  · have hm := Int.emod_nonneg (c * (c / 1009 + 69621) + a % 2147483587) (show (2147483629 : Int) ≠ 0 by omega)
    have hm2 := Int.emod_lt_of_pos (c * (c / 1009 + 69621) + a % 2147483587) (show (0 : Int) < 2147483629 by omega)
    refine ⟨((c * (c / 1009 + 69621) + a % 2147483587) % 2147483629 + 7) / 97 % base, l.set n (.lst [.d (.int a), .d (.int b), .d (.int ((c * (c / 1009 + 69621) + a % 2147483587) % 2147483629 + 7))]), ?_, Int.emod_nonneg _ (by omega), Int.emod_lt_of_pos _ hb, ⟨a, b, (c * (c / 1009 + 69621) + a % 2147483587) % 2147483629 + 7, ha, by omega, by omega, by simp [hn]⟩⟩
    have hcc : -18446744073709551616 < c ∧ c < 18446744073709551616 := by omega
    have hset : ∀ x, (l.set n x)[n]? = some x := fun x => by simp [hn]
    by_cases hb0 : b = 0
    · have ha0 : ¬ 0 < a := fun z => h1 ⟨hb0, z⟩
      subst hb0
      simp [d_law_digit, evSs, evS, evE, evT, evL, evO, evC, Res.bind_ok, Res.bind_exc, Res.bind_bad, Res.out_ok, Res.out_exc, Res.out_bad, Out.thn_nx, Out.thn_rt, Out.thn_exc, Out.thn_bk, Out.thn_ct, ret_some, ret_none, idxW, op2W, pk, pkL, op2, eqO, okD, okL, eqD, eqL, cmpI, trW, trD, asgT, setMany, modD, fdivD, mulD, addD, subD, retO, setIW, put, Out.res, biD, isTy, smD, smW, rcv, unW, mkLst, isO, isNone, inO, inW, anyD, slD, itms, small62, wipeE, noExc, unStr, frzW, appW, CF_fn, CF_sub, startE, hl, at0, at1, at2, ha0, hb, hb2, ix0, ix2, hcc, hset]
    · have hb1 : (b == 0) = false := by simp [hb0]
      simp [d_law_digit, evSs, evS, evE, evT, evL, evO, evC, Res.bind_ok, Res.bind_exc, Res.bind_bad, Res.out_ok, Res.out_exc, Res.out_bad, Out.thn_nx, Out.thn_rt, Out.thn_exc, Out.thn_bk, Out.thn_ct, ret_some, ret_none, idxW, op2W, pk, pkL, op2, eqO, okD, okL, eqD, eqL, cmpI, trW, trD, asgT, setMany, modD, fdivD, mulD, addD, subD, retO, setIW, put, Out.res, biD, isTy, smD, smW, rcv, unW, mkLst, isO, isNone, inO, inW, anyD, slD, itms, small62, wipeE, noExc, unStr, frzW, appW, CF_fn, CF_sub, startE, hl, at0, at1, at2, hb1, hb, hb2, ix0, ix2, hcc, hset]
/-- a new state -/
theorem state {k : Nat} {l : Loc} {i : Int} (hk : 1 ≤ k) : ∃ l', cl k f_law_state [.d (.int i)] [] l = .ok (.r l.length) l' ∧ VS l' l.length := by
  obtain ⟨k, rfl⟩ := pos_of hk
  rw [cl_eq (df := d_law_state) rfl rfl]
  have h1 := Int.emod_nonneg (if i < 0 then -i else i) (show (2147483629 : Int) ≠ 0 by omega)
  have h2 := Int.emod_lt_of_pos (if i < 0 then -i else i) (show (0 : Int) < 2147483629 by omega)
  refine ⟨l ++ [.lst [.d (.int ((if i < 0 then -i else i) / 2)), .d (.int ((if i < 0 then -i else i) % 2)), .d (.int ((if i < 0 then -i else i) % 2147483629 + 7))]], ?_, _, _, _, ?_, ?_, ?_, by simp; exact ⟨rfl, rfl, rfl⟩⟩
  · simp [d_law_state, evSs, evS, evE, evT, evL, evO, evC, Res.bind_ok, Res.bind_exc, Res.bind_bad, Res.out_ok, Res.out_exc, Res.out_bad, Out.thn_nx, Out.thn_rt, Out.thn_exc, Out.thn_bk, Out.thn_ct, ret_some, ret_none, idxW, op2W, pk, pkL, op2, eqO, okD, okL, eqD, eqL, cmpI, trW, trD, asgT, setMany, modD, fdivD, mulD, addD, subD, retO, setIW, put, Out.res, biD, isTy, smD, smW, rcv, unW, mkLst, isO, isNone, inO, inW, anyD, slD, itms, small62, wipeE, noExc, unStr, frzW, appW, CF_fn, CF_sub, startE]
  · split <;> omega
  · omega
  · omega
/-! comprehensions -/
section
variable {ee : Env → Loc → Res W} {ec : Env → Loc → Res Bool} {i : Nat} {ρ : Env}
theorem lc_gen {R : Tx → Prop} {P : Loc → Prop} (h : ∀ d l, P l → ∃ s l', ee (ρ.set i (some (.d d))) l = .ok (.d (.str s)) l' ∧ R s ∧ P l') (hc : ∀ ρ l, ec ρ l = .ok true l) :
    ∀ (ds : List D) (l : Loc), P l → ∃ (ss : List Tx) (l' : Loc), lcGo ec ee (.n i) ds ρ l = .ok (ss.map fun s => W.d (.str s)) l' ∧ (∀ s ∈ ss, R s) ∧ ss.length = ds.length ∧ P l'
  | [], l, hp => ⟨[], l, rfl, by simp, rfl, hp⟩
  | d :: ds, l, hp => by
    obtain ⟨s, l1, e1, r1, p1⟩ := h d l hp
    obtain ⟨ss, l2, e2, r2, n2, p2⟩ := lc_gen h hc ds l1 p1
    refine ⟨s :: ss, l2, ?_, fun x hx => ?_, by simp [n2], p2⟩
    · unfold lcGo
      simp only [asgT, ret_some, Res.bind_ok, hc, e1, e2, List.map_cons]
    · rcases List.mem_cons.mp hx with rfl | hx
      · exact r1
      · exact r2 x hx
theorem lc_map {g : D → D} {l : Loc} : ∀ {ds : List D}, (∀ d ∈ ds, ec (ρ.set i (some (.d d))) l = .ok true l ∧ ee (ρ.set i (some (.d d))) l = .ok (.d (g d)) l) → lcGo ec ee (.n i) ds ρ l = .ok (ds.map fun d => W.d (g d)) l
  | [], _ => rfl
  | d :: ds, h => by
    obtain ⟨h1, h2⟩ := h d List.mem_cons_self
    unfold lcGo
    simp only [asgT, ret_some, Res.bind_ok, h1, h2, lc_map fun d hd => h d (List.mem_cons_of_mem _ hd), List.map_cons]
theorem lc_filter {g : D → D} {t : D → Bool} {l : Loc} : ∀ {ds : List D}, (∀ d ∈ ds, ec (ρ.set i (some (.d d))) l = .ok (t d) l ∧ ee (ρ.set i (some (.d d))) l = .ok (.d (g d)) l) → lcGo ec ee (.n i) ds ρ l = .ok ((ds.filter t).map fun d => W.d (g d)) l
  | [], _ => rfl
  | d :: ds, h => by
    obtain ⟨h1, h2⟩ := h d List.mem_cons_self
    unfold lcGo
    rw [List.filter_cons]
    simp only [asgT, ret_some, Res.bind_ok, h1, h2, lc_filter fun d hd => h d (List.mem_cons_of_mem _ hd)]
    cases t d <;> simp
end
theorem unW_map {α : Type} (f : α → D) : ∀ (xs : List α), unW (xs.map fun x => W.d (f x)) = some (xs.map f)
  | [] => rfl
  | x :: xs => by
    show (unW (xs.map fun x => W.d (f x))).map (f x :: ·) = _
    rw [unW_map f xs]; rfl
theorem unStr_mapf {α : Type} (f : α → Tx) : ∀ (xs : List α), unStr (xs.map fun x => D.str (f x)) = some (xs.map f)
  | [] => rfl
  | x :: xs => by
    show (unStr (xs.map fun x => D.str (f x))).map (f x :: ·) = _
    rw [unStr_mapf f xs]; rfl
theorem join_nil : ∀ (xs : List Tx), TL.joinL [] xs = xs.flatten
  | [] => rfl
  | [p] => by simp [TL.joinL]
  | p :: q :: r => by
    show p ++ ([] ++ TL.joinL [] (q :: r)) = _
    rw [join_nil (q :: r)]; simp
theorem sum_le {m : Nat} : ∀ {xs : List Tx}, (∀ x ∈ xs, x.length ≤ m) → (xs.map List.length).sum ≤ xs.length * m
  | [], _ => by simp
  | x :: xs, h => by
    have h1 := h x List.mem_cons_self
    have h2 := sum_le (m := m) (xs := xs) fun y hy => h y (List.mem_cons_of_mem _ hy)
    simp only [List.map_cons, List.sum_cons, List.length_cons, Nat.add_mul]
    omega
theorem joinL_len {s : Tx} {m : Nat} : ∀ {xs : List Tx}, (∀ x ∈ xs, x.length ≤ m) → (TL.joinL s xs).length ≤ xs.length * (m + s.length)
  | [], _ => by simp [TL.joinL]
  | [p], h => by
    have h1 := h p List.mem_cons_self
    show p.length ≤ 1 * _
    omega
  | p :: q :: r, h => by
    have h1 := h p List.mem_cons_self
    have h2 := joinL_len (s := s) (m := m) (xs := q :: r) fun y hy => h y (List.mem_cons_of_mem _ hy)
    show (p ++ (s ++ TL.joinL s (q :: r))).length ≤ (r.length + 1 + 1) * _
    have e : (r.length + 1 + 1) * (m + s.length) = (r.length + 1) * (m + s.length) + (m + s.length) := by rw [Nat.add_mul (r.length + 1), Nat.one_mul]
    rw [e]
    simp only [List.length_append, List.length_cons] at h2 ⊢
    omega
theorem joinL_all {s : Tx} {P : Nat → Prop} (hs : ∀ c ∈ s, P c) : ∀ {xs : List Tx}, (∀ x ∈ xs, ∀ c ∈ x, P c) → ∀ c ∈ TL.joinL s xs, P c
  | [], _, c, hc => by cases hc
  | [p], h, c, hc => h p List.mem_cons_self c hc
  | p :: q :: r, h, c, hc => by
    have hc' : c ∈ p ++ (s ++ TL.joinL s (q :: r)) := hc
    rcases List.mem_append.mp hc' with hc | hc
    · exact h p List.mem_cons_self c hc
    · rcases List.mem_append.mp hc with hc | hc
      · exact hs c hc
      · exact joinL_all hs (fun y hy => h y (List.mem_cons_of_mem _ hy)) c hc
abbrev A62 : Tx := [97, 98, 99, 100, 101, 102, 103, 104, 105, 106, 107, 108, 109, 110, 111, 112, 113, 114, 115, 116, 117, 118, 119, 120, 121, 122, 48, 49, 50, 51, 52, 53, 54, 55, 56, 57, 65, 66, 67, 68, 69, 70, 71, 72, 73, 74, 75, 76, 77, 78, 79, 80, 81, 82, 83, 84, 85, 86, 87, 88, 89, 90]
def Txt (s : Tx) : Prop := ∀ c ∈ s, c < 128
theorem a62_lt : ∀ c ∈ A62, c < 128 := by decide
theorem b3_lt : ∀ c ∈ B3, c < 128 := by decide
theorem flat1 {R : Nat → Prop} : ∀ {ss : List Tx}, (∀ s ∈ ss, ∃ c, s = [c] ∧ R c) → ss.flatten.length = ss.length ∧ ∀ c ∈ ss.flatten, R c
  | [], _ => ⟨rfl, by simp⟩
  | s :: ss, h => by
    obtain ⟨c, rfl, hc⟩ := h s List.mem_cons_self
    obtain ⟨i1, i2⟩ := flat1 fun x hx => h x (List.mem_cons_of_mem _ hx)
    refine ⟨by simp [i1], fun x hx => ?_⟩
    rw [List.flatten_cons] at hx
    rcases List.mem_append.mp hx with hx | hx
    · rw [List.mem_singleton.mp hx]; exact hc
    · exact i2 x hx
theorem sum1 : ∀ {ss : List Tx} {R : Nat → Prop}, (∀ s ∈ ss, ∃ c, s = [c] ∧ R c) → (ss.map List.length).sum = ss.length
  | [], _, _ => rfl
  | s :: ss, R, h => by
    obtain ⟨c, rfl, hc⟩ := h s List.mem_cons_self
    have := sum1 fun x hx => h x (List.mem_cons_of_mem _ hx)
    simp [this]; omega
theorem mkl {xs : List Tx} {fx l : Loc} (h1 : xs.length ≤ 16777216) : mkLst false fx (xs.map fun s => W.d (.str s)) l = .ok (.d (.lst (xs.map fun s => .str s))) l := by
  have e1 := unW_map (fun s => D.str s) xs
  simp [mkLst, h1, e1]
theorem smj {xs : List Tx} {sep : Tx} {fx l : Loc} (h2 : (xs.map List.length).sum + xs.length * sep.length ≤ 16777216) : smW fx .join (.d (.str sep)) [.d (.lst (xs.map fun s => .str s))] l = .ok (.d (.str (TL.joinL sep xs))) l := by
  have e2 := unStr_mapf (fun s => s) xs
  simp only [List.map_id'] at e2
  simp [smW, pk, pkL, smD, e2, h2]
theorem ro_ {cf : Nat → List W → Loc → Loc → Res W} {fx l : Loc} {f : Nat} {ws : List W} {x : D} (h : cf f ws (fx ++ l) [] = .ok (.d x) []) : roCall cf fx f ws l = .ok (.d x) l := by
  unfold roCall
  rw [h]
/-! one turn of a while -/
theorem wh_false {et : Env → Loc → Res Bool} {eb : Env → Loc → Out} {n : Nat} {ρ : Env} {l l1 : Loc} (h : et ρ l = .ok false l1) : whGo et eb (n + 1) ρ l = .nx ρ l1 := by
  show (et ρ l).out ρ _ = _
  rw [h]
  rfl
theorem wh_true {et : Env → Loc → Res Bool} {eb : Env → Loc → Out} {n : Nat} {ρ ρ2 : Env} {l l1 l2 : Loc} (h : et ρ l = .ok true l1) (hb : eb ρ l1 = .nx ρ2 l2) : whGo et eb (n + 1) ρ l = whGo et eb n ρ2 l2 := by
  show (et ρ l).out ρ _ = _
  rw [h]
  simp only [Res.out_ok]
  rw [hb]
end Vx

set_option maxHeartbeats 400000
namespace Vx
open PySem L2
theorem ltr_e {k n : Nat} {m : Int} (hk : 1 ≤ k) {l : Loc} (hv : VS l n) (d : W) : ∃ s l', evE (CF k) [] e_law_letters_0 [some (.r n), some (.d (.int m)), some (.d (.str A62)), some d] l = .ok (.d (.str s)) l' ∧ (∃ c, s = [c] ∧ c ∈ A62) ∧ VS l' n := by
  obtain ⟨x, l1, e, x0, x1, v1⟩ := digit (k := k) (base := 62) hk hv (by omega) (by omega)
  obtain ⟨c, ec, hc⟩ := atn (xs := A62) x0 (by simpa using x1)
  refine ⟨[c], l1, ?_, ⟨c, rfl, hc⟩, v1⟩
  simp [e_law_letters_0, evE, evL, e, idxW, ec]
theorem letters {k n : Nat} {l : Loc} {m : Int} (hk : 2 ≤ k) (h : VS l n) (h0 : 0 ≤ m) (h1 : m ≤ 1000) : ∃ s l', cl k f_law_letters [.r n, .d (.int m)] [] l = .ok (.d (.str s)) l' ∧ s.length = m.toNat ∧ (∀ c ∈ s, c ∈ A62) ∧ VS l' n := by
  obtain ⟨k, rfl⟩ := pos_of (show 1 ≤ k by omega)
  rw [cl_eq (df := d_law_letters) rfl rfl]
  have hs : small62 m = true := by unfold small62; simp; omega
  obtain ⟨ss, l', e, hss, hlen, hv⟩ := lc_gen (i := 3) (ρ := [some (.r n), some (.d (.int m)), some (.d (.str A62)), none]) (ec := evC (CF k) [] .nil) (ee := evE (CF k) [] e_law_letters_0) (fun d l hv => ltr_e (m := m) (by omega) hv (.d d)) (fun ρ l => rfl) ((List.range m.toNat).map fun (i : Nat) => .int (i : Int)) l h
  obtain ⟨f1, f2⟩ := flat1 hss
  have hsum := sum1 hss
  have hlen' : ss.length = m.toNat := by simpa using hlen
  refine ⟨ss.flatten, l', ?_, by rw [f1, hlen'], f2, hv⟩
  have hm := mkl (xs := ss) (fx := []) (l := l') (by omega)
  have hj := smj (xs := ss) (sep := []) (fx := []) (l := l') (by rw [hsum]; simp; omega)
  rw [join_nil] at hj
  simp [d_law_letters, evSs, evS, evE, evL, startE, asgT, rcv, itms, hs, noExc, wipeE, e, hm, hj, Out.res]
theorem gap_e {k n : Nat} (hk : 1 ≤ k) {l : Loc} (hv : VS l n) (d : W) : ∃ s l', evE (CF k) [] e_law_gap_0 [some (.r n), some d] l = .ok (.d (.str s)) l' ∧ (∃ c, s = [c] ∧ c ∈ B3) ∧ VS l' n := by
  obtain ⟨x, l1, e, x0, x1, v1⟩ := digit (k := k) (base := 3) hk hv (by omega) (by omega)
  obtain ⟨c, ec, hc⟩ := atn (xs := B3) x0 (by simpa using x1)
  refine ⟨[c], l1, ?_, ⟨c, rfl, hc⟩, v1⟩
  simp [e_law_gap_0, evE, evL, e, idxW, ec]
theorem gap {k n : Nat} {l : Loc} (hk : 2 ≤ k) (h : VS l n) : ∃ s l', cl k f_law_gap [.r n] [] l = .ok (.d (.str s)) l' ∧ s ≠ [] ∧ s.length ≤ 3 ∧ (∀ c ∈ s, c ∈ B3) ∧ VS l' n := by
  obtain ⟨k, rfl⟩ := pos_of (show 1 ≤ k by omega)
  rw [cl_eq (df := d_law_gap) rfl rfl]
  obtain ⟨x, l1, ex, x0, x1, v1⟩ := digit (k := k) (base := 3) (by omega) h (by omega) (by omega)
  have hs : small62 (1 + x) = true := by unfold small62; simp; omega
  obtain ⟨ss, l', e, hss, hlen, hv⟩ := lc_gen (i := 1) (ρ := [some (.r n), none]) (ec := evC (CF k) [] .nil) (ee := evE (CF k) [] e_law_gap_0) (fun d l hv => gap_e (by omega) hv (.d d)) (fun ρ l => rfl) ((List.range (1 + x).toNat).map fun (i : Nat) => .int (i : Int)) l1 v1
  obtain ⟨f1, f2⟩ := flat1 hss
  have hsum := sum1 hss
  have hlen' : ss.length = (1 + x).toNat := by simpa using hlen
  refine ⟨ss.flatten, l', ?_, fun z => by rw [z] at f1; simp at f1; omega, by omega, f2, hv⟩
  have hm := mkl (xs := ss) (fx := []) (l := l') (by omega)
  have hj := smj (xs := ss) (sep := []) (fx := []) (l := l') (by rw [hsum]; simp; omega)
  rw [join_nil] at hj
  simp [d_law_gap, evSs, evS, evE, evL, startE, asgT, rcv, itms, hs, ex, op2W, pk, op2, addD, noExc, wipeE, e, hm, hj, Out.res]
def A66 (c : Nat) : Prop := c ∈ A62 ∨ c ∈ B3
theorem add_s {a b : Tx} (h : a.length + b.length ≤ 16777216) : addD (.str a) (.str b) = some (.str (a ++ b)) := by
  simp [addD, h]
end Vx

set_option maxHeartbeats 400000
namespace Vx
open PySem L2
theorem small_ {k c : Nat} {fx l : Loc} (hk : 1 ≤ k) : cl k f_small [.d (.str [c])] fx l = .ok (.d (smallF c)) l := by
  obtain ⟨k, rfl⟩ := pos_of hk
  rw [cl_eq (df := d_small) rfl rfl]
  by_cases h1 : c ∈ P36
  · have e : smallF c = .str [c] := by unfold smallF nc; rw [if_pos h1]
    rw [e]
    have h1' : decide (c ∈ P36) = true := by simpa using h1
    simp only [CF_fn, d_small, evSs, evS, evE, evT, startE, List.map, List.length, List.replicate, List.append, List.append_nil, Nat.sub_self, Res.bind_ok, Res.out_ok, op2W, pk, op2, inO, inW, Option.bind_some, Option.map_some, ret_some, trW, trD, List.getElem?_cons_zero, h1', Out.thn_nx, Out.thn_rt, Out.res]
  · by_cases h2 : c ∈ G26
    · have e : smallF c = .str [c + 32] := by unfold smallF nc; rw [if_neg h1, if_pos h2]
      rw [e]
      have h1' : decide (c ∈ P36) = false := by simpa using h1
      have h2' : decide (c ∈ G26) = true := by simpa using h2
      have hf : ∀ c ∈ G26, ∃ j : Nat, firstAt [c] 0 G26 = some j ∧ atD P36 (j : Int) = some (c + 32) := by
        have : ∀ c ∈ G26, firstAt [c] 0 G26 = some (c - 65) ∧ atD P36 ((c - 65 : Nat) : Int) = some (c + 32) := by decide
        exact fun c hc => ⟨_, this c hc⟩
      obtain ⟨j, f1, f2⟩ := hf c h2
      have hl : P36.length ≤ 16777216 := by decide
      simp only [CF_fn, d_small, evSs, evS, evE, evT, evL, startE, List.map, List.length, List.replicate, List.append, List.append_nil, Nat.sub_self, Res.bind_ok, Res.out_ok, op2W, pk, op2, inO, inW, Option.bind_some, Option.map_some, ret_some, trW, trD, List.getElem?_cons_zero, h1', h2', Out.thn_nx, Out.thn_rt, Out.res, rcv]
      simp [smW, pk, pkL, smD, f1, idxW, f2]
    · by_cases h3 : c ∈ B3
      · have e : smallF c = .str [95] := by unfold smallF nc; rw [if_neg h1, if_neg h2, if_pos h3]
        rw [e]
        have h1' : decide (c ∈ P36) = false := by simpa using h1
        have h2' : decide (c ∈ G26) = false := by simpa using h2
        have h3' : decide (c ∈ B3) = true := by simpa using h3
        simp only [CF_fn, d_small, evSs, evS, evE, evT, evL, startE, List.map, List.length, List.replicate, List.append, List.append_nil, Nat.sub_self, Res.bind_ok, Res.out_ok, op2W, pk, op2, inO, inW, Option.bind_some, Option.map_some, ret_some, trW, trD, List.getElem?_cons_zero, h1', h2', h3', Out.thn_nx, Out.thn_rt, Out.res, rcv]
      · have e : smallF c = .non := by unfold smallF nc; rw [if_neg h1, if_neg h2, if_neg h3]
        rw [e]
        have h1' : decide (c ∈ P36) = false := by simpa using h1
        have h2' : decide (c ∈ G26) = false := by simpa using h2
        have h3' : decide (c ∈ B3) = false := by simpa using h3
        simp only [CF_fn, d_small, evSs, evS, evE, evT, evL, startE, List.map, List.length, List.replicate, List.append, List.append_nil, Nat.sub_self, Res.bind_ok, Res.out_ok, op2W, pk, op2, inO, inW, Option.bind_some, Option.map_some, ret_some, trW, trD, List.getElem?_cons_zero, h1', h2', h3', Out.thn_nx, Out.thn_rt, Out.res, rcv]
def gsm : D → D
  | .str [c] => smallF c
  | _ => .non
theorem okL_small : ∀ (t : Tx), okL 12 (t.map smallF) = true
  | [] => rfl
  | c :: t => by
    show (okD 12 (smallF c) && okL 12 (t.map smallF)) = true
    rw [okL_small t]
    unfold smallF
    cases nc c <;> rfl
theorem any_small : ∀ (t : Tx), anyD .non (t.map smallF) = (ncs t).isNone
  | [] => rfl
  | c :: t => by
    show (eqD (smallF c) .non || anyD .non (t.map smallF)) = _
    rw [any_small t, ncs_cons]
    unfold smallF
    cases nc c <;> cases ncs t <;> rfl
theorem map_small : ∀ {t u : Tx}, ncs t = some u → t.map smallF = u.map fun x => .str [x]
  | [], u, h => by cases h; rfl
  | c :: t, u, h => by
    rw [ncs_cons] at h
    cases h1 : nc c with
    | none => rw [h1] at h; cases h
    | some x =>
      cases h2 : ncs t with
      | none => rw [h1, h2] at h; cases h
      | some v =>
        rw [h1, h2] at h
        cases h
        rw [List.map_cons, List.map_cons, map_small h2]
        unfold smallF
        rw [h1]
theorem flat_one : ∀ (u : Tx), (u.map fun x => ([x] : Tx)).flatten = u
  | [] => rfl
  | x :: u => by rw [List.map_cons, List.flatten_cons, flat_one u]; rfl
theorem sum_one : ∀ (u : Tx), ((u.map fun x => ([x] : Tx)).map List.length).sum = u.length
  | [] => rfl
  | x :: u => by rw [List.map_cons, List.map_cons, List.sum_cons, sum_one u]; simp; omega
theorem ps_e0 {k : Nat} {t : Tx} {fx l : Loc} (hk : 1 ≤ k) (a b d : Option W) (c : Nat) : evE (CF k) fx e_plain_segment_0 [some (.d (.str t)), a, b, some (.d (.str [c])), d] l = .ok (.d (smallF c)) l := by
  simp [e_plain_segment_0, evE, evL, ro_ (small_ hk)]
theorem sp1_mem {s : Nat} : ∀ {l acc w : Tx}, w ∈ sp1 s acc l → w.length ≤ acc.length + l.length ∧ ∀ c ∈ w, c ∈ acc ∨ c ∈ l
  | [], acc, w, h => by
    have : w = acc := by simpa [sp1] using h
    subst this
    exact ⟨by simp, fun c hc => .inl hc⟩
  | x :: l, acc, w, h => by
    unfold sp1 at h
    split at h
    · rcases List.mem_cons.mp h with rfl | h
      · exact ⟨by simp, fun c hc => .inl hc⟩
      · obtain ⟨i1, i2⟩ := sp1_mem h
        refine ⟨by simp only [List.length_cons, List.length_nil] at i1 ⊢; omega, fun c hc => ?_⟩
        rcases i2 c hc with z | z
        · cases z
        · exact .inr (List.mem_cons_of_mem _ z)
    · obtain ⟨i1, i2⟩ := sp1_mem h
      refine ⟨by simp only [List.length_cons, List.length_append, List.length_nil] at i1 ⊢; omega, fun c hc => ?_⟩
      rcases i2 c hc with z | z
      · rcases List.mem_append.mp z with z | z
        · exact .inl z
        · rw [List.mem_singleton.mp z]; exact .inr List.mem_cons_self
      · exact .inr (List.mem_cons_of_mem _ z)
theorem sp1_count {s : Nat} : ∀ {l acc : Tx}, (sp1 s acc l).length ≤ l.length + 1
  | [], acc => by simp [sp1]
  | x :: l, acc => by
    unfold sp1
    split
    · have := sp1_count (s := s) (l := l) (acc := [])
      simp only [List.length_cons]; omega
    · have := sp1_count (s := s) (l := l) (acc := acc ++ [x])
      simp only [List.length_cons]; omega
theorem sms {u : Tx} {s : Nat} {fx l : Loc} (h : u.length ≤ 100000) (hs : s < 256) : smW fx .split (.d (.str u)) [.d (.str [s])] l = .ok (.d (.lst ((sp1 s [] u).map .str))) l := by
  have h1 : u.length ≤ 16777214 := by omega
  simp [smW, pk, pkL, smD, spl1, h1, hs]
theorem okL_str : ∀ (xs : List Tx), okL 12 (xs.map .str) = true
  | [] => rfl
  | x :: xs => by
    show (okD 12 (.str x) && okL 12 (xs.map .str)) = true
    rw [okL_str xs]; rfl
theorem okLs (n : Nat) : ∀ (xs : List Tx), okL n (xs.map fun s => D.str s) = true
  | [] => by cases n <;> rfl
  | x :: xs => by
    have h1 : okD n (.str x) = true := by cases n <;> rfl
    show okL n (.str x :: xs.map fun s => D.str s) = true
    unfold okL
    rw [okLs n xs, h1]
    rfl
theorem eq_nil (xs : List Tx) : eqD (.lst (xs.map .str)) (.lst []) = decide (xs = []) := by
  cases xs <;> rfl
theorem mkLst_nil {fx l : Loc} : mkLst false fx [] l = .ok (.d (.lst [])) l := rfl
theorem plain_segment {k : Nat} {t : Tx} {fx l : Loc} (hk : 2 ≤ k) (hl : t.length ≤ 1000) : cl k f_plain_segment [.d (.str t)] fx l = .ok (.d (segD t)) l := by
  obtain ⟨k, rfl⟩ := pos_of (show 1 ≤ k by omega)
  rw [cl_eq (df := d_plain_segment) rfl rfl]
  have e0 : lcGo (evC (CF k) fx .nil) (evE (CF k) fx e_plain_segment_0) (.n 3) (t.map fun c => .str [c]) [some (.d (.str t)), none, none, none, none] l = .ok (t.map fun c => W.d (smallF c)) l := by
    have := lc_map (ee := evE (CF k) fx e_plain_segment_0) (ec := evC (CF k) fx .nil) (i := 3) (ρ := [some (.d (.str t)), none, none, none, none]) (g := gsm) (l := l) (ds := t.map fun c => .str [c]) (fun d hd => by
      obtain ⟨c, _, rfl⟩ := List.mem_map.mp hd
      exact ⟨rfl, ps_e0 (by omega) none none none c⟩)
    rw [this, List.map_map]
    rfl
  have e1 : unW (t.map fun c => W.d (smallF c)) = some (t.map smallF) := unW_map smallF t
  have hz : t.length ≤ 16777216 := by omega
  cases hn : ncs t with
  | none =>
    have e : segD t = .non := by unfold segD; rw [hn]
    rw [e]
    have ha := any_small t
    rw [hn] at ha
    simp [d_plain_segment, evSs, evS, evE, evL, evT, startE, asgT, itms, wipeE, e0, noExc, mkLst, e1, hz, op2W, pk, op2, inO, inW, okD, okL_small, ha, trW, trD, Out.res]
  | some u =>
    have ha := any_small t
    rw [hn] at ha
    have hm := map_small hn
    have hul := (ncs_ok hn).2
    have hj := smj (xs := u.map fun x => ([x] : Tx)) (sep := []) (fx := fx) (l := l) (by rw [sum_one]; simp; omega)
    rw [join_nil, flat_one, List.map_map] at hj
    have hj2 : smW fx .join (.d (.str [])) [.d (.lst (u.map fun x => .str [x]))] l = .ok (.d (.str u)) l := hj
    have hsp := sms (u := u) (s := 95) (fx := fx) (l := l) (by omega) (by omega)
    have e2 : lcGo (evC (CF k) fx c_plain_segment_0) (evE (CF k) fx e_plain_segment_1) (.n 4) ((sp1 95 [] u).map .str) [some (.d (.str t)), some (.d (.lst (t.map smallF))), none, none, none] l = .ok (((sp1 95 [] u).filter fun w => decide (w ≠ [])).map fun w => W.d (.str w)) l := by
      have := lc_filter (ee := evE (CF k) fx e_plain_segment_1) (ec := evC (CF k) fx c_plain_segment_0) (i := 4) (ρ := [some (.d (.str t)), some (.d (.lst (t.map smallF))), none, none, none]) (g := id) (t := fun d => !(eqD d (.str []))) (l := l) (ds := (sp1 95 [] u).map .str) (fun d hd => by
        obtain ⟨w, _, rfl⟩ := List.mem_map.mp hd
        refine ⟨?_, rfl⟩
        simp [c_plain_segment_0, evC, evT, evE, op2W, pk, op2, eqO, okD, trW, trD]
        cases hq : eqD (.str w) (.str []) <;> rfl)
      rw [this, List.filter_map, List.map_map]
      congr 1
      have hf : ((fun d => !(eqD d (.str []))) ∘ D.str) = fun w : Tx => decide (w ≠ []) := by
        funext w
        cases w <;> rfl
      rw [hf]
      rfl
    have hwl : ((sp1 95 [] u).filter fun w => decide (w ≠ [])).length ≤ 1001 := Nat.le_trans (List.length_filter_le _ _) (Nat.le_trans sp1_count (by omega))
    have hws : ∀ w ∈ (sp1 95 [] u).filter fun w => decide (w ≠ []), w.length ≤ 1000 := fun w hw => by
      have := (sp1_mem (List.mem_filter.mp hw).1).1
      simp only [List.length_nil] at this
      omega
    have hfold := fold_eq u
    generalize hW : (sp1 95 [] u).filter (fun w => decide (w ≠ [])) = ws at *
    have hwm := mkl (xs := ws) (fx := fx) (l := l) (by omega)
    have hsum := sum_le hws
    have hj3 := smj (xs := ws) (sep := [95]) (fx := fx) (l := l) (by simp; omega)
    have hnn : ∀ w ∈ ws, w ≠ [] := fun w hw => by
      rw [← hW] at hw
      simpa using (List.mem_filter.mp hw).2
    have e : segD t = if ws = [] then .non else .str (TL.joinL [95] ws) := by
      unfold segD
      rw [hn]
      show sgN u = _
      unfold sgN
      rw [hfold]
      have := joinL_nil (s := [95]) hnn
      by_cases hh : ws = []
      · rw [if_pos hh, if_pos (this.mpr hh)]
      · rw [if_neg hh, if_neg fun z => hh (this.mp z)]
    rw [e]
    have hok := okL_str ws
    have hen := eq_nil ws
    have mk0 : mkLst false fx (t.map fun c => W.d (smallF c)) l = .ok (.d (.lst (t.map smallF))) l := by simp [mkLst, hz, e1]
    have hj4 : smW fx .join (.d (.str [])) [.d (.lst (t.map smallF))] l = .ok (.d (.str u)) l := by rw [hm]; exact hj2
    by_cases hh : ws = []
    · rw [if_pos hh]
      rw [hh] at hen
      subst hh
      simp only [List.map_nil] at e2 hwm hen
      simp [d_plain_segment, evSs, evS, evE, evL, evT, startE, asgT, itms, wipeE, e0, noExc, mkLst, e1, hz, op2W, pk, op2, inO, inW, okD, okL, okL_small, ha, trW, trD, Out.res, rcv, hj4, hsp, e2, unW, eqO, hen]
    · rw [if_neg hh]
      have hen2 : eqD (.lst (ws.map .str)) (.lst []) = false := by rw [hen]; simpa using hh
      simp [d_plain_segment, evSs, evS, evE, evL, evT, startE, asgT, itms, wipeE, e0, noExc, hwm, mkLst_nil, e1, op2W, pk, op2, inO, inW, okD, okL, okL_small, ha, trW, trD, Out.res, rcv, hj4, hsp, e2, eqO, okLs, hok, hen2, hj3, mk0]
end Vx

set_option maxHeartbeats 400000
namespace Vx
open PySem L2
/-! segments of a text -/
theorem segs_eq (xs : List Tx) : (unStr (xs.map segD) = none ∧ anyD .non (xs.map segD) = true) ∨ ∃ ss, unStr (xs.map segD) = some ss ∧ anyD .non (xs.map segD) = false ∧ xs.map segD = ss.map .str ∧ ss.length = xs.length := by
  induction xs with
  | nil => exact .inr ⟨[], rfl, rfl, rfl, rfl⟩
  | cons x xs ih =>
    have hx : segD x = .non ∨ ∃ s, segD x = .str s := by
      unfold segD
      cases ncs x with
      | none => exact .inl rfl
      | some u =>
        show sgN u = _ ∨ ∃ s, sgN u = _
        unfold sgN
        split
        · exact .inl rfl
        · exact .inr ⟨_, rfl⟩
    rcases hx with hx | ⟨s, hx⟩
    · refine .inl ⟨by rw [List.map_cons, hx]; rfl, by rw [List.map_cons, hx]; rfl⟩
    · rcases ih with ⟨h1, h2⟩ | ⟨ss, h1, h2, h3, h4⟩
      · refine .inl ⟨?_, ?_⟩
        · rw [List.map_cons, hx]
          show (unStr (xs.map segD)).map (s :: ·) = none
          rw [h1]; rfl
        · rw [List.map_cons, hx]
          show (eqD (.str s) .non || anyD .non (xs.map segD)) = true
          rw [h2]; rfl
      · refine .inr ⟨s :: ss, ?_, ?_, by rw [List.map_cons, hx, h3]; rfl, by simp [h4]⟩
        · rw [List.map_cons, hx]
          show (unStr (xs.map segD)).map (s :: ·) = _
          rw [h1]; rfl
        · rw [List.map_cons, hx]
          show (eqD (.str s) .non || anyD .non (xs.map segD)) = false
          rw [h2]; rfl
theorem okL_seg (n : Nat) : ∀ (xs : List Tx), okL n (xs.map segD) = true
  | [] => by cases n <;> rfl
  | x :: xs => by
    have h1 : okD n (segD x) = true := by
      unfold segD
      cases ncs x with
      | none => cases n <;> rfl
      | some u =>
        show okD n (sgN u) = true
        unfold sgN
        split <;> cases n <;> rfl
    show okL n (segD x :: xs.map segD) = true
    unfold okL
    rw [okL_seg n xs, h1]
    rfl
theorem seg_bound {t : Tx} {ss : List Tx} (hl : t.length ≤ 1000) (h : (sp1 47 [] t).map segD = ss.map .str) : ∀ s ∈ ss, s.length ≤ 2000 := fun s hs => by
  have : D.str s ∈ (sp1 47 [] t).map segD := by rw [h]; exact List.mem_map.mpr ⟨s, hs, rfl⟩
  obtain ⟨w, hw, e⟩ := List.mem_map.mp this
  have h1 := (segD_str e).2.2
  have h2 := (sp1_mem hw).1
  simp only [List.length_nil] at h2
  omega
theorem seg_join {t : Tx} {ss : List Tx} {fx l : Loc} (hl : t.length ≤ 1000) (h : (sp1 47 [] t).map segD = ss.map .str) (hn : ss.length ≤ 1001) : smW fx .join (.d (.str [47])) [.d (.lst (ss.map fun s => .str s))] l = .ok (.d (.str (TL.joinL [47] ss))) l := by
  have hsum := sum_le (seg_bound hl h)
  refine smj ?_
  simp only [List.length_cons, List.length_nil]
  omega
theorem seg_jlen {t : Tx} {ss : List Tx} (hl : t.length ≤ 1000) (h : (sp1 47 [] t).map segD = ss.map .str) (hn : ss.length ≤ 1001) : (TL.joinL [47] ss).length ≤ 16777216 := by
  have := joinL_len (s := [47]) (seg_bound hl h)
  simp only [List.length_cons, List.length_nil] at this
  omega
def gsg : D → D
  | .str s => segD s
  | _ => .non
theorem ct_e0 {k : Nat} {fx l : Loc} (hk : 2 ≤ k) {s : Tx} (hl : s.length ≤ 1000) (a b c : Option W) : evE (CF k) fx e_come_to_0 [a, b, c, some (.d (.str s))] l = .ok (.d (segD s)) l := by
  simp [e_come_to_0, evE, evL, ro_ (plain_segment hk hl)]
theorem unW_seg (xs : List Tx) : unW (xs.map fun s => W.d (segD s)) = some (xs.map segD) := unW_map segD xs
theorem come_to {k : Nat} {t : Tx} {fx l : Loc} (hk : 3 ≤ k) (hl : t.length ≤ 1000) : cl k f_come_to [.d (.str t)] fx l = .ok (.d (nameD t)) l := by
  obtain ⟨k, rfl⟩ := pos_of (show 1 ≤ k by omega)
  rw [cl_eq (df := d_come_to) rfl rfl]
  have hsp := sms (u := t) (s := 47) (fx := fx) (l := l) (by omega) (by omega)
  have e0 : lcGo (evC (CF k) fx .nil) (evE (CF k) fx e_come_to_0) (.n 3) ((sp1 47 [] t).map .str) [some (.d (.str t)), none, none, none] l = .ok ((sp1 47 [] t).map fun c => W.d (segD c)) l := by
    have := lc_map (ee := evE (CF k) fx e_come_to_0) (ec := evC (CF k) fx .nil) (i := 3) (ρ := [some (.d (.str t)), none, none, none]) (g := gsg) (l := l) (ds := (sp1 47 [] t).map .str) (fun d hd => by
      obtain ⟨s, hs, rfl⟩ := List.mem_map.mp hd
      have h2 := (sp1_mem hs).1
      simp only [List.length_nil] at h2
      exact ⟨rfl, ct_e0 (by omega) (by omega) (some (.d (.str t))) none none⟩)
    rw [this, List.map_map]
    rfl
  have hcnt := sp1_count (s := 47) (l := t) (acc := [])
  have hmk : mkLst false fx ((sp1 47 [] t).map fun c => W.d (segD c)) l = .ok (.d (.lst ((sp1 47 [] t).map segD))) l := by
    have h1 : (sp1 47 [] t).length ≤ 16777216 := by omega
    simp [mkLst, h1, unW_seg]
  have hok := okL_seg
  unfold nameD joinO
  rcases segs_eq (sp1 47 [] t) with ⟨h1, h2⟩ | ⟨ss, h1, h2, h3, h4⟩
  · rw [h1]
    simp [d_come_to, evSs, evS, evE, evL, evT, startE, asgT, itms, wipeE, e0, noExc, hmk, op2W, pk, op2, inO, inW, okD, hok, h2, trW, trD, Out.res, rcv, hsp, biD, isTy]
  · rw [h1]
    dsimp only
    have hj := seg_join (fx := fx) (l := l) hl h3 (by omega)
    have hjl := seg_jlen hl h3 (by omega)
    have hok2 := okLs
    rw [h3] at hmk h2
    by_cases c1 : 4 < ss.length
    · rw [if_pos (.inl c1)]
      have c1' : (4 : Int) < (ss.length : Int) := by omega
      simp [d_come_to, evSs, evS, evE, evL, evT, startE, asgT, itms, wipeE, e0, noExc, hmk, op2W, pk, op2, inO, inW, okD, hok2, h2, trW, trD, Out.res, rcv, hsp, biD, isTy, cmpI, c1']
    · have c1' : ¬ (4 : Int) < (ss.length : Int) := by omega
      by_cases c2 : 24 < (TL.joinL [47] ss).length
      · rw [if_pos (.inr c2)]
        have c2' : (24 : Int) < ((TL.joinL [47] ss).length : Int) := by omega
        simp [d_come_to, evSs, evS, evE, evL, evT, startE, asgT, itms, wipeE, e0, noExc, hmk, op2W, pk, op2, inO, inW, okD, hok2, h2, trW, trD, Out.res, rcv, hsp, biD, isTy, cmpI, c1', c2', hj, hjl]
      · have c2' : ¬ (24 : Int) < ((TL.joinL [47] ss).length : Int) := by omega
        rw [if_neg (fun z => z.elim c1 c2)]
        simp [d_come_to, evSs, evS, evE, evL, evT, startE, asgT, itms, wipeE, e0, noExc, hmk, op2W, pk, op2, inO, inW, okD, hok2, h2, trW, trD, Out.res, rcv, hsp, biD, isTy, cmpI, c1', c2', hj, hjl]
theorem name_cases (t : Tx) : nameD t = .non ∨ ∃ d, nameD t = .str d ∧ d.length ≤ 24 ∧ ∀ c ∈ d, okC1 c := by
  unfold nameD joinO
  rcases segs_eq (sp1 47 [] t) with ⟨h1, h2⟩ | ⟨ss, h1, h2, h3, h4⟩
  · rw [h1]; exact .inl rfl
  · rw [h1]
    dsimp only
    split
    · exact .inl rfl
    · rename_i hc
      refine .inr ⟨_, rfl, by omega, okC1_of fun s hs => ?_⟩
      have : D.str s ∈ (sp1 47 [] t).map segD := by rw [h3]; exact List.mem_map.mpr ⟨s, hs, rfl⟩
      obtain ⟨w, _, e⟩ := List.mem_map.mp this
      exact (segD_str e).1
theorem name_none {k : Nat} {t : Tx} {fx l : Loc} (hk : 4 ≤ k) (hl : t.length ≤ 1000) (h : nameD t = .non) : cl k f_name_of [.d (.str t)] fx l = .exc 1 .non l := by
  obtain ⟨k, rfl⟩ := pos_of (show 1 ≤ k by omega)
  rw [cl_eq (df := d_name_of) rfl rfl]
  have := ro_ (come_to (k := k) (t := t) (fx := fx ++ l) (l := []) (by omega) hl)
  rw [h] at this
  simp [d_name_of, evSs, evS, evE, evT, evL, startE, asgT, this, op2W, isO, isNone, trW, pk, trD, Out.res]
theorem name_some {k : Nat} {t d : Tx} {fx l : Loc} (hk : 4 ≤ k) (hl : t.length ≤ 1000) (h : nameD t = .str d) : cl k f_name_of [.d (.str t)] fx l = .ok (.d (.str d)) l := by
  obtain ⟨k, rfl⟩ := pos_of (show 1 ≤ k by omega)
  rw [cl_eq (df := d_name_of) rfl rfl]
  have := ro_ (come_to (k := k) (t := t) (fx := fx ++ l) (l := []) (by omega) hl)
  rw [h] at this
  simp [d_name_of, evSs, evS, evE, evT, evL, startE, asgT, this, op2W, isO, isNone, trW, pk, trD, Out.res]
end Vx

set_option maxHeartbeats 400000
namespace Vx
open PySem L2
theorem roe_ {cf : Nat → List W → Loc → Loc → Res W} {fx l : Loc} {f c : Nat} {ws : List W} {p : D} (h : cf f ws (fx ++ l) [] = .exc c p []) : roCall cf fx f ws l = .exc c p l := by
  unfold roCall
  rw [h]
theorem eqd_str (a b : Tx) : eqD (.str a) (.str b) = (a == b) := rfl
theorem okN1_lt {c : Nat} (h : okN1 c) : c < 128 := by
  rcases h with h | rfl
  · have : ∀ c ∈ P36, c < 128 := by decide
    exact this c h
  · decide
theorem p36_lt : ∀ c ∈ P36, c < 128 := by decide
/-! the program's own -/
theorem cut_toI {α : Type} (xs : List α) (n : Nat) : cut xs none (some (n : Int)) = xs.take n := by
  unfold cut
  rw [HT.sIx_none, HT.sIx_nat, List.drop_zero, Nat.sub_zero]
  rw [List.take_eq_take_iff]
  omega
theorem cut_fromI {α : Type} (xs : List α) (n : Nat) : cut xs (some (n : Int)) none = xs.drop n := by
  unfold cut
  rw [HT.sIx_none, HT.sIx_nat]
  by_cases h : n ≤ xs.length
  · rw [Nat.min_eq_left h, List.take_of_length_le (by simp)]
  · rw [Nat.min_eq_right (show xs.length ≤ n by omega), List.drop_length, List.drop_eq_nil_of_le (show xs.length ≤ n by omega), List.take_nil]
theorem is_of {k : Nat} {s t a b : Tx} {fx l : Loc} (hk : 5 ≤ k) (hs : s.length ≤ 1000) (ht : t.length ≤ 1000) (ha : nameD s = .str a) (hb : nameD t = .str b) (la : a.length ≤ 24) (lb : b.length ≤ 24) : cl k f_is_of [.d (.str s), .d (.str t)] fx l = .ok (.d (.bl (inF a b))) l := by
  obtain ⟨k, rfl⟩ := pos_of (show 1 ≤ k by omega)
  rw [cl_eq (df := d_is_of) rfl rfl]
  have e1 := ro_ (name_some (k := k) (fx := fx ++ l) (l := []) (by omega) hs ha)
  have e2 := ro_ (name_some (k := k) (fx := fx ++ l) (l := []) (by omega) ht hb)
  have hz : b.length ≤ 16777216 := by omega
  have hza : a.length ≤ 16777216 := by omega
  have c1 : Vx.cut a none (some ((b.length : Int) + 1)) = a.take (b.length + 1) := cut_toI a (b.length + 1)
  have s1 := add_s (a := b) (b := [47]) (by simp; omega)
  have a1 : addD (.int (b.length : Nat)) (.int 1) = some (.int ((b.length : Int) + 1)) := rfl
  rw [inF_eq]
  cases q : (a == b) with
  | true => simp [d_is_of, evSs, evS, evE, evL, evO, startE, asgT, e1, e2, op2W, op2, pk, eqO, okD, eqd_str, q, trW, trD, Out.res]
  | false => simp [d_is_of, evSs, evS, evE, evL, evO, startE, asgT, e1, e2, op2W, op2, pk, eqO, okD, eqd_str, q, trW, trD, biD, hz, hza, a1, slD, c1, s1, Out.res]
theorem check_stems {k : Nat} {a b : Tx} {fx l : Loc} (hk : 6 ≤ k) (ha : Nm a) (hb : Nm b) : cl k f_check_stems [.d (.str a), .d (.str b)] fx l = if inF a b = true ∨ inF b a = true then .exc 2 .non l else .ok (.d .non) l := by
  obtain ⟨k, rfl⟩ := pos_of (show 1 ≤ k by omega)
  rw [cl_eq (df := d_check_stems) rfl rfl]
  have la := ha.l
  have lb := hb.l
  have e1 := ro_ (is_of (k := k) (fx := fx ++ l) (l := []) (by omega) (show a.length ≤ 1000 by omega) (show b.length ≤ 1000 by omega) ha.name hb.name la lb)
  have e2 := ro_ (is_of (k := k) (fx := fx ++ l) (l := []) (by omega) (show b.length ≤ 1000 by omega) (show a.length ≤ 1000 by omega) hb.name ha.name lb la)
  cases q : inF a b with
  | true =>
    rw [q] at e1
    simp [d_check_stems, evSs, evS, evE, evT, evL, startE, e1, trW, pk, trD, Out.res]
  | false =>
    rw [q] at e1
    cases q2 : inF b a with
    | true =>
      rw [q2] at e2
      simp [d_check_stems, evSs, evS, evE, evT, evL, startE, e1, e2, trW, pk, trD, Out.res]
    | false =>
      rw [q2] at e2
      simp [d_check_stems, evSs, evS, evE, evT, evL, startE, e1, e2, trW, pk, trD, Out.res]
theorem moved {k : Nat} {s1 s2 s3 a b c : Tx} {fx l : Loc} (hk : 7 ≤ k) (h1 : s1.length ≤ 1000) (h2 : s2.length ≤ 1000) (h3 : s3.length ≤ 1000) (ha : Nm a) (hb : Nm b) (hc : Nm c) (n1 : nameD s1 = .str a) (n2 : nameD s2 = .str b) (n3 : nameD s3 = .str c) :
    cl k f_moved [.d (.str s1), .d (.str s2), .d (.str s3)] fx l = if inF b c = true ∨ inF c b = true ∨ inF a b = false then .exc 2 .non l else if 24 < (c ++ a.drop b.length).length ∨ 3 < (c ++ a.drop b.length).count 47 then .exc 1 .non l else .ok (.d (.str (c ++ a.drop b.length))) l := by
  obtain ⟨k, rfl⟩ := pos_of (show 1 ≤ k by omega)
  rw [cl_eq (df := d_moved) rfl rfl]
  have la := ha.l
  have lb := hb.l
  have lc := hc.l
  have e1 := ro_ (name_some (k := k) (fx := fx ++ l) (l := []) (by omega) h1 n1)
  have e2 := ro_ (name_some (k := k) (fx := fx ++ l) (l := []) (by omega) h2 n2)
  have e3 := ro_ (name_some (k := k) (fx := fx ++ l) (l := []) (by omega) h3 n3)
  have e4 := check_stems (k := k) (a := b) (b := c) (fx := fx ++ l) (l := []) (by omega) hb hc
  have e5 := ro_ (is_of (k := k) (fx := fx ++ l) (l := []) (by omega) (show a.length ≤ 1000 by omega) (show b.length ≤ 1000 by omega) ha.name hb.name la lb)
  by_cases q : inF b c = true ∨ inF c b = true
  · rw [if_pos q] at e4
    rw [if_pos (by rcases q with q | q; exact .inl q; exact .inr (.inl q))]
    simp [d_moved, evSs, evS, evE, evL, startE, asgT, e1, e2, e3, roe_ e4, Out.res]
  · rw [if_neg q] at e4
    cases q5 : inF a b with
    | false =>
      rw [q5] at e5
      rw [if_pos (.inr (.inr rfl))]
      simp [d_moved, evSs, evS, evE, evL, evT, startE, asgT, e1, e2, e3, ro_ e4, e5, trW, pk, trD, Out.res]
    | true =>
      rw [q5] at e5
      rw [if_neg (by
        rintro (z | z | z)
        · exact q (.inl z)
        · exact q (.inr z)
        · cases z)]
      have hz : b.length ≤ 16777216 := by omega
      have hza : a.length ≤ 16777216 := by omega
      have c1 := cut_fromI a b.length
      have ld : (a.drop b.length).length ≤ 24 := by rw [List.length_drop]; omega
      have s1 := add_s (a := c) (b := a.drop b.length) (by omega)
      have hg := moved_good ha hc.g q5
      have hn := name_good hg
      have hl : (c ++ a.drop b.length).length ≤ 1000 := by rw [List.length_append]; omega
      by_cases q6 : 24 < (c ++ a.drop b.length).length ∨ 3 < (c ++ a.drop b.length).count 47
      · rw [if_pos q6]
        rw [if_pos q6.symm] at hn
        have e6 := roe_ (name_none (k := k) (fx := fx ++ l) (l := []) (by omega) hl hn)
        simp [d_moved, evSs, evS, evE, evL, evT, evO, startE, asgT, e1, e2, e3, ro_ e4, e5, trW, pk, trD, biD, hz, hza, slD, c1, op2W, op2, s1, e6, Out.res]
      · rw [if_neg q6]
        rw [if_neg (fun z => q6 z.symm)] at hn
        have e6 := ro_ (name_some (k := k) (fx := fx ++ l) (l := []) (by omega) hl hn)
        simp [d_moved, evSs, evS, evE, evL, evT, evO, startE, asgT, e1, e2, e3, ro_ e4, e5, trW, pk, trD, biD, hz, hza, slD, c1, op2W, op2, s1, e6, Out.res]
end Vx

set_option maxHeartbeats 400000
namespace Vx
open PySem L2
abbrev toldT : Tx := [116, 111, 108, 100]
abbrev refT : Tx := [114, 101, 102, 117, 115, 101, 100]
abbrev ruleT : Tx := [114, 117, 108, 101]
abbrev nameT : Tx := [110, 97, 109, 101]
/-! the law's own -/
theorem law_in {k : Nat} {a b : Tx} {fx l : Loc} (hk : 1 ≤ k) (la : a.length ≤ 1000) (lb : b.length ≤ 1000) : cl k f_law_in [.d (.str a), .d (.str b)] fx l = .ok (.d (.bl (inF a b))) l := by
  obtain ⟨k, rfl⟩ := pos_of hk
  rw [cl_eq (df := d_law_in) rfl rfl]
  have s1 := add_s (a := a) (b := [47]) (by simp; omega)
  have s2 := add_s (a := b) (b := [47]) (by simp; omega)
  have s3 : smW fx .starts (.d (.str (a ++ [47]))) [.d (.str (b ++ [47]))] l = .ok (.d (.bl (inF a b))) l := by
    simp [smW, pk, pkL, smD, inF]
  simp [d_law_in, evSs, evS, evE, evL, startE, op2W, op2, pk, s1, s2, rcv, s3, Out.res]
def dueD (a b c : Tx) : D := if inF b c = true ∨ inF c b = true ∨ inF a b = false then .tup [.str refT, .str ruleT] else if 24 < (c ++ a.drop b.length).length ∨ 3 < (c ++ a.drop b.length).count 47 then .tup [.str refT, .str nameT] else .tup [.str toldT, .str (c ++ a.drop b.length)]
theorem law_due {k : Nat} {a b c : Tx} {fx l : Loc} (hk : 2 ≤ k) (la : a.length ≤ 1000) (lb : b.length ≤ 1000) (lc : c.length ≤ 1000) : cl k f_law_due [.d (.str a), .d (.str b), .d (.str c)] fx l = .ok (.d (dueD a b c)) l := by
  obtain ⟨k, rfl⟩ := pos_of (show 1 ≤ k by omega)
  rw [cl_eq (df := d_law_due) rfl rfl]
  have e1 := ro_ (law_in (k := k) (fx := fx ++ l) (l := []) (by omega) lb lc)
  have e2 := ro_ (law_in (k := k) (fx := fx ++ l) (l := []) (by omega) lc lb)
  have e3 := ro_ (law_in (k := k) (fx := fx ++ l) (l := []) (by omega) la lb)
  unfold dueD
  cases q1 : inF b c with
  | true =>
    rw [q1] at e1
    simp [d_law_due, evSs, evS, evE, evL, evT, startE, e1, trW, pk, trD, unW, Out.res]
  | false =>
    rw [q1] at e1
    cases q2 : inF c b with
    | true =>
      rw [q2] at e2
      simp [d_law_due, evSs, evS, evE, evL, evT, startE, e1, e2, trW, pk, trD, unW, Out.res]
    | false =>
      rw [q2] at e2
      cases q3 : inF a b with
      | false =>
        rw [q3] at e3
        simp [d_law_due, evSs, evS, evE, evL, evT, startE, e1, e2, e3, trW, pk, trD, unW, Out.res]
      | true =>
        rw [q3] at e3
        have hz : b.length ≤ 16777216 := by omega
        have hza : a.length ≤ 16777216 := by omega
        have c1 := cut_fromI a b.length
        have ld : (a.drop b.length).length ≤ 1000 := by rw [List.length_drop]; omega
        have s1 := add_s (a := c) (b := a.drop b.length) (by omega)
        have hf : (c ++ a.drop b.length).length ≤ 16777216 := by rw [List.length_append]; omega
        rw [if_neg (by simp)]
        generalize c ++ a.drop b.length = f at *
        by_cases q4 : 24 < f.length
        · have q4' : (24 : Int) < (f.length : Int) := by omega
          simp [d_law_due, evSs, evS, evE, evL, evT, evO, startE, asgT, e1, e2, e3, trW, pk, trD, unW, biD, hz, hza, slD, c1, op2W, op2, s1, hf, cmpI, q4, q4', Out.res]
        · have q4' : ¬ (24 : Int) < (f.length : Int) := by omega
          have s2 : smW fx .count (.d (.str f)) [.d (.str [47])] l = .ok (.d (.int (f.count 47 : Nat))) l := by simp [smW, pk, pkL, smD]
          by_cases q5 : 3 < f.count 47
          · have q5' : (3 : Int) < (f.count 47 : Int) := by omega
            simp [d_law_due, evSs, evS, evE, evL, evT, evO, startE, asgT, e1, e2, e3, trW, pk, trD, unW, biD, hz, hza, slD, c1, op2W, op2, s1, hf, cmpI, q4, q4', rcv, s2, q5, q5', Out.res]
          · have q5' : ¬ (3 : Int) < (f.count 47 : Int) := by omega
            simp [d_law_due, evSs, evS, evE, evL, evT, evO, startE, asgT, e1, e2, e3, trW, pk, trD, unW, biD, hz, hza, slD, c1, op2W, op2, s1, hf, cmpI, q4, q4', rcv, s2, q5, q5', Out.res]
/-! drawing -/
theorem pl_e {k n : Nat} {m : Int} (hk : 1 ≤ k) {l : Loc} (hv : VS l n) (d : W) : ∃ s l', evE (CF k) [] e_law_plain_0 [some (.r n), some (.d (.int m)), some (.d (.str P36)), some d] l = .ok (.d (.str s)) l' ∧ (∃ c, s = [c] ∧ c ∈ P36) ∧ VS l' n := by
  obtain ⟨x, l1, e, x0, x1, v1⟩ := digit (k := k) (base := 36) hk hv (by omega) (by omega)
  obtain ⟨c, ec, hc⟩ := atn (xs := P36) x0 (by simpa using x1)
  refine ⟨[c], l1, ?_, ⟨c, rfl, hc⟩, v1⟩
  simp [e_law_plain_0, evE, evL, e, idxW, ec]
theorem plain {k n : Nat} {l : Loc} {m : Int} (hk : 2 ≤ k) (h : VS l n) (h0 : 0 ≤ m) (h1 : m ≤ 1000) : ∃ s l', cl k f_law_plain [.r n, .d (.int m)] [] l = .ok (.d (.str s)) l' ∧ s.length = m.toNat ∧ (∀ c ∈ s, c ∈ P36) ∧ VS l' n := by
  obtain ⟨k, rfl⟩ := pos_of (show 1 ≤ k by omega)
  rw [cl_eq (df := d_law_plain) rfl rfl]
  have hs : small62 m = true := by unfold small62; simp; omega
  obtain ⟨ss, l', e, hss, hlen, hv⟩ := lc_gen (i := 3) (ρ := [some (.r n), some (.d (.int m)), some (.d (.str P36)), none]) (ec := evC (CF k) [] .nil) (ee := evE (CF k) [] e_law_plain_0) (fun d l hv => pl_e (m := m) (by omega) hv (.d d)) (fun ρ l => rfl) ((List.range m.toNat).map fun (i : Nat) => .int (i : Int)) l h
  obtain ⟨f1, f2⟩ := flat1 hss
  have hsum := sum1 hss
  have hlen' : ss.length = m.toNat := by simpa using hlen
  refine ⟨ss.flatten, l', ?_, by rw [f1, hlen'], f2, hv⟩
  have hm := mkl (xs := ss) (fx := []) (l := l') (by omega)
  have hj := smj (xs := ss) (sep := []) (fx := []) (l := l') (by rw [hsum]; simp; omega)
  rw [join_nil] at hj
  simp [d_law_plain, evSs, evS, evE, evL, startE, asgT, rcv, itms, hs, noExc, wipeE, e, hm, hj, Out.res]
/-- one word drawn -/
def Wd (m : Nat) (s : Tx) : Prop := Word s ∧ s.length ≤ m
theorem wd_of {s : Tx} {x : Int} (h : s.length = (1 + x).toNat) (x0 : 0 ≤ x) (hs : ∀ c ∈ s, c ∈ P36) {m : Nat} (hx : x < m) : Wd m s := by
  refine ⟨⟨fun z => ?_, hs⟩, by omega⟩
  rw [z] at h
  simp at h
  omega
theorem a1i (x : Int) : addD (.int 1) (.int x) = some (.int (1 + x)) := rfl
theorem st_e {k n : Nat} (hk : 2 ≤ k) {l : Loc} (hv : VS l n) (d : W) : ∃ s l', evE (CF k) [] e_law_stem_0 [some (.r n), some d] l = .ok (.d (.str s)) l' ∧ Wd 6 s ∧ VS l' n := by
  obtain ⟨x, l1, e, x0, x1, v1⟩ := digit (k := k) (base := 6) (by omega) hv (by omega) (by omega)
  obtain ⟨s, l2, e2, sl, sa, v2⟩ := plain (k := k) (m := 1 + x) hk v1 (by omega) (by omega)
  refine ⟨s, l2, ?_, wd_of sl x0 sa (by omega), v2⟩
  simp [e_law_stem_0, evE, evL, e, op2W, op2, pk, a1i, e2]
theorem stem {k n : Nat} {l : Loc} (hk : 3 ≤ k) (h : VS l n) : ∃ s l', cl k f_law_stem [.r n] [] l = .ok (.d (.str s)) l' ∧ Nm s ∧ VS l' n := by
  obtain ⟨k, rfl⟩ := pos_of (show 1 ≤ k by omega)
  rw [cl_eq (df := d_law_stem) rfl rfl]
  obtain ⟨x, l1, ex, x0, x1, v1⟩ := digit (k := k) (base := 2) (by omega) h (by omega) (by omega)
  have hs : small62 (1 + x) = true := by unfold small62; simp; omega
  obtain ⟨ss, l', e, hss, hlen, hv⟩ := lc_gen (i := 1) (ρ := [some (.r n), none]) (ec := evC (CF k) [] .nil) (ee := evE (CF k) [] e_law_stem_0) (fun d l hv => st_e (by omega) hv (.d d)) (fun ρ l => rfl) ((List.range (1 + x).toNat).map fun (i : Nat) => .int (i : Int)) l1 v1
  have hlen' : ss.length = (1 + x).toNat := by simpa using hlen
  have hne : ss ≠ [] := fun z => by rw [z] at hlen'; simp at hlen'; omega
  have hsum := sum_le (m := 6) (xs := ss) fun s hm => (hss s hm).2
  have hjl := joinL_len (s := [47]) (m := 6) (xs := ss) fun s hm => (hss s hm).2
  have hm := mkl (xs := ss) (fx := []) (l := l') (by omega)
  have hj := smj (xs := ss) (sep := [47]) (fx := []) (l := l') (by simp; omega)
  obtain ⟨g1, g2⟩ := join_ok hne (fun s hm => (hss s hm).1) (by omega)
  refine ⟨TL.joinL [47] ss, l', ?_, ⟨g1, g2, by simp only [List.length_singleton] at hjl; omega⟩, hv⟩
  simp [d_law_stem, evSs, evS, evE, evL, startE, asgT, rcv, itms, hs, ex, op2W, pk, op2, a1i, noExc, wipeE, e, hm, hj, Out.res]
theorem be_e {k n : Nat} (hk : 2 ≤ k) {l : Loc} (hv : VS l n) {A B C0 D0 : Option W} (d : W) : ∃ s l', evE (CF k) [] e_law_beside_0 [some (.r n), A, B, C0, D0, some d] l = .ok (.d (.str s)) l' ∧ Wd 4 s ∧ VS l' n := by
  obtain ⟨x, l1, e, x0, x1, v1⟩ := digit (k := k) (base := 4) (by omega) hv (by omega) (by omega)
  obtain ⟨s, l2, e2, sl, sa, v2⟩ := plain (k := k) (m := 1 + x) hk v1 (by omega) (by omega)
  refine ⟨s, l2, ?_, wd_of sl x0 sa (by omega), v2⟩
  simp [e_law_beside_0, evE, evL, e, op2W, op2, pk, a1i, e2]
theorem beside {k n : Nat} {l : Loc} {s : Tx} (hk : 4 ≤ k) (h : VS l n) (hs : Nm s) : ∃ t l', cl k f_law_beside [.r n, .d (.str s)] [] l = .ok (.d (.str t)) l' ∧ Nm t ∧ VS l' n := by
  obtain ⟨k, rfl⟩ := pos_of (show 1 ≤ k by omega)
  rw [cl_eq (df := d_law_beside) rfl rfl]
  have sl := hs.l
  have hz : s.length ≤ 16777216 := by omega
  obtain ⟨w, l1, ew, w0, w1, v1⟩ := digit (k := k) (base := 7) (by omega) h (by omega) (by omega)
  by_cases h3 : w < 3
  · obtain ⟨x, l2, ex, x0, x1, v2⟩ := digit (k := k) (base := 2) (by omega) v1 (by omega) (by omega)
    have hsm : small62 (1 + x) = true := by unfold small62; simp; omega
    obtain ⟨ss, l3, e, hss, hlen, v3⟩ := lc_gen (i := 5) (ρ := [some (.r n), some (.d (.str s)), some (.d (.int w)), none, none, none]) (ec := evC (CF k) [] .nil) (ee := evE (CF k) [] e_law_beside_0) (fun d l hv => be_e (by omega) hv (.d d)) (fun ρ l => rfl) ((List.range (1 + x).toNat).map fun (i : Nat) => .int (i : Int)) l2 v2
    have hlen' : ss.length = (1 + x).toNat := by simpa using hlen
    have hne : ss ≠ [] := fun z => by rw [z] at hlen'; simp at hlen'; omega
    have hsum := sum_le (m := 4) (xs := ss) fun s hm => (hss s hm).2
    have hjl := joinL_len (s := [47]) (m := 4) (xs := ss) fun s hm => (hss s hm).2
    have hm := mkl (xs := ss) (fx := []) (l := l3) (by omega)
    have hj := smj (xs := ss) (sep := [47]) (fx := []) (l := l3) (by simp; omega)
    obtain ⟨g1, g2⟩ := join_ok hne (fun s hm => (hss s hm).1) (by omega)
    obtain ⟨f1, f2⟩ := first_ok hs g1
    have s1 := add_s (a := s) (b := [47]) (by simp; omega)
    have s2 := add_s (a := s ++ [47]) (b := TL.joinL [47] ss) (by simp only [List.length_append, List.length_singleton] at hjl ⊢; omega)
    have hX : (s ++ 47 :: TL.joinL [47] ss).length ≤ 1000 := by simp only [List.length_append, List.length_cons, List.length_nil] at hjl ⊢; omega
    have hsp := sms (u := s ++ 47 :: TL.joinL [47] ss) (s := 47) (fx := []) (l := l3) (by omega) (by omega)
    have hmem : ∀ y ∈ (sp1 47 [] (s ++ 47 :: TL.joinL [47] ss)).take 4, y.length ≤ 1000 := fun y hy => by
      have := (sp1_mem (List.mem_of_mem_take hy)).1
      simp only [List.length_nil] at this
      omega
    have hsum2 := sum_le hmem
    have hjl2 := joinL_len (s := [47]) hmem
    have ht4 : ((sp1 47 [] (s ++ 47 :: TL.joinL [47] ss)).take 4).length ≤ 4 := by simp; omega
    have hj2 := smj (xs := (sp1 47 [] (s ++ 47 :: TL.joinL [47] ss)).take 4) (sep := [47]) (fx := []) (l := l3) (by simp only [List.length_singleton]; omega)
    have c1 : Vx.cut ((sp1 47 [] (s ++ 47 :: TL.joinL [47] ss)).map D.str) none (some (4 : Int)) = ((sp1 47 [] (s ++ 47 :: TL.joinL [47] ss)).take 4).map .str := by
      rw [show (4 : Int) = ((4 : Nat) : Int) from rfl, cut_toI, List.map_take]
    have hJ : (TL.joinL [47] ((sp1 47 [] (s ++ 47 :: TL.joinL [47] ss)).take 4)).length ≤ 16777216 := by simp only [List.length_singleton] at hjl2; omega
    have s2' : addD (.str (s ++ [47])) (.str (TL.joinL [47] ss)) = some (.str (s ++ 47 :: TL.joinL [47] ss)) := by
      rw [s2, List.append_assoc]; rfl
    generalize hX' : s ++ 47 :: TL.joinL [47] ss = X at *
    generalize hM : TL.joinL [47] ss = M at *
    have hj2' : smW [] .join (.d (.str [47])) [.d (.lst (((sp1 47 [] X).take 4).map .str))] l3 = .ok (.d (.str (TL.joinL [47] ((sp1 47 [] X).take 4)))) l3 := hj2
    generalize hT : (sp1 47 [] X).take 4 = Y at *
    generalize hJ' : TL.joinL [47] Y = J at *
    have c2 : Vx.cut J none (some (24 : Int)) = J.take 24 := by rw [show (24 : Int) = ((24 : Nat) : Int) from rfl, cut_toI]
    have l24 : (J.take 24).length ≤ 16777216 := by have := List.length_take_le 24 J; omega
    have sr : smW [] .rstrip (.d (.str (J.take 24))) [.d (.str [47])] l3 = .ok (.d (.str (TL.tl (PySem.Txt.rstripChars ⟨(J.take 24).toArray⟩ ⟨[47].toArray⟩)))) l3 := by
      have : smD .rstrip (.str (J.take 24)) [.str [47]] = some (.str (TL.tl (PySem.Txt.rstripChars ⟨(J.take 24).toArray⟩ ⟨[47].toArray⟩))) := by
        show (if _ then _ else _) = _
        rw [if_pos l24]
      simp only [smW, pk, pkL, Option.bind_some, Option.map_some, this]
      rfl
    refine ⟨_, l3, ?_, rstrip_ok f1 f2, v3⟩
    generalize TL.tl (PySem.Txt.rstripChars ⟨(J.take 24).toArray⟩ ⟨[47].toArray⟩) = R at *
    simp [d_law_beside, evSs, evS, evE, evT, evL, evO, startE, asgT, ew, op2W, op2, pk, cmpI, h3, trW, trD, itms, hsm, ex, a1i, wipeE, e, noExc, hm, rcv, hj, s1, s2', hsp, slD, c1, hj2', hJ, c2, sr, Out.res]
  by_cases h4 : w = 3
  · subst h4
    refine ⟨s, l1, ?_, hs, v1⟩
    simp [d_law_beside, evSs, evS, evE, evT, evL, startE, asgT, ew, op2W, op2, pk, cmpI, eqO, okD, eqD, trW, trD, Out.res]
  have n4 : (w == 3) = false := by simp [h4]
  by_cases h5 : w = 4
  · subst h5
    obtain ⟨p, l2, ep, pl, pa, v2⟩ := plain (k := k) (m := 2) (by omega) v1 (by omega) (by omega)
    have pl' : p.length = 2 := pl
    have s1 := add_s (a := s) (b := p) (by omega)
    have hl : (s ++ p).length ≤ 16777216 := by rw [List.length_append]; omega
    have c2 : Vx.cut (s ++ p) none (some (24 : Int)) = (s ++ p).take 24 := by rw [show (24 : Int) = ((24 : Nat) : Int) from rfl, cut_toI]
    have hok := more_ok hs pa
    refine ⟨_, l2, ?_, hok, v2⟩
    generalize s ++ p = J at *
    simp [d_law_beside, evSs, evS, evE, evT, evL, evO, startE, asgT, ew, op2W, op2, pk, cmpI, eqO, okD, eqD, trW, trD, ep, s1, slD, hl, c2, Out.res]
  have n5 : (w == 4) = false := by simp [h5]
  by_cases h6 : w = 5 ∧ 47 ∈ s
  · obtain ⟨rfl, hm⟩ := h6
    have sr : smW [] .rpart (.d (.str s)) [.d (.str [47])] l1 = .ok (.d (.tup [.str (TL.tl (PySem.Txt.rpartition ⟨s.toArray⟩ ⟨[47].toArray⟩).1), .str (TL.tl (PySem.Txt.rpartition ⟨s.toArray⟩ ⟨[47].toArray⟩).2.1), .str (TL.tl (PySem.Txt.rpartition ⟨s.toArray⟩ ⟨[47].toArray⟩).2.2)])) l1 := by
      have : smD .rpart (.str s) [.str [47]] = some (.tup [.str (TL.tl (PySem.Txt.rpartition ⟨s.toArray⟩ ⟨[47].toArray⟩).1), .str (TL.tl (PySem.Txt.rpartition ⟨s.toArray⟩ ⟨[47].toArray⟩).2.1), .str (TL.tl (PySem.Txt.rpartition ⟨s.toArray⟩ ⟨[47].toArray⟩).2.2)]) := by
        show (if _ then _ else _) = _
        rw [if_pos ⟨by simp, hz⟩]
      simp only [smW, pk, pkL, Option.bind_some, Option.map_some, this]
      rfl
    refine ⟨_, l1, ?_, rpart_ok hs hm, v1⟩
    generalize TL.tl (PySem.Txt.rpartition ⟨s.toArray⟩ ⟨[47].toArray⟩).1 = R at *
    generalize TL.tl (PySem.Txt.rpartition ⟨s.toArray⟩ ⟨[47].toArray⟩).2.1 = R2 at *
    generalize TL.tl (PySem.Txt.rpartition ⟨s.toArray⟩ ⟨[47].toArray⟩).2.2 = R3 at *
    have ha : atD [D.str R, .str R2, .str R3] 0 = some (.str R) := rfl
    simp [d_law_beside, evSs, evS, evE, evT, evL, startE, asgT, ew, op2W, op2, pk, cmpI, eqO, okD, eqD, trW, trD, inW, inO, hm, rcv, sr, idxW, ha, Out.res]
  obtain ⟨t, l2, et, ht, v2⟩ := stem (k := k) (by omega) v1
  refine ⟨t, l2, ?_, ht, v2⟩
  by_cases h7 : w = 5
  · subst h7
    have hm : ¬ 47 ∈ s := fun z => h6 ⟨rfl, z⟩
    simp [d_law_beside, evSs, evS, evE, evT, evL, startE, asgT, ew, op2W, op2, pk, cmpI, eqO, okD, eqD, trW, trD, inW, inO, hm, et, Out.res]
  · have n6 : (w == 5) = false := by simp [h7]
    simp [d_law_beside, evSs, evS, evE, evT, evL, startE, asgT, ew, op2W, op2, pk, cmpI, eqO, okD, eqD, h3, n4, n5, n6, trW, trD, et, Out.res]
end Vx

set_option maxHeartbeats 400000
namespace Vx
open PySem L2
theorem upp1 {c : Nat} (h : c < 128) : smD .upper (.str [c]) [] = some (.str [uppC c]) := by
  simp [smD, h]
/-! written otherwise -/
def N37 (c : Nat) : Prop := c ∈ P36 ∨ c = 47
theorem ow_e {k n c : Nat} {l : Loc} {A B : Option W} (hk : 1 ≤ k) (h : VS l n) (hc : N37 c) : ∃ x l', evE (CF k) [] e_law_otherwise_0 [A, some (.r n), B, some (.d (.str [c]))] l = .ok (.d (.str [x])) l' ∧ (x = c ∨ x = uppC c) ∧ VS l' n := by
  have hlt : c < 128 := by
    rcases hc with h | rfl
    · exact p36_lt c h
    · omega
  obtain ⟨d, l1, e, d0, d1, v1⟩ := digit (k := k) (base := 2) (by omega) h (by omega) (by omega)
  have hu := upp1 hlt
  have hd : d = 0 ∨ d = 1 := by omega
  rcases hd with rfl | rfl
  · refine ⟨c, l1, ?_, .inl rfl, v1⟩
    have ha : atD [D.str [c], D.str [uppC c]] 0 = some (.str [c]) := rfl
    simp [e_law_otherwise_0, evE, evL, pk, e, rcv, smW, pkL, hu, mkLst, unW, idxW, ha]
  · refine ⟨uppC c, l1, ?_, .inr rfl, v1⟩
    have ha : atD [D.str [c], D.str [uppC c]] 1 = some (.str [uppC c]) := rfl
    simp [e_law_otherwise_0, evE, evL, pk, e, rcv, smW, pkL, hu, mkLst, unW, idxW, ha]
theorem n37_95 {c : Nat} (h : N37 c) : c ≠ 95 := by
  rcases h with h | rfl
  · exact p36_95 c h
  · decide
theorem ow_lc {k n : Nat} {A B D0 : Option W} (hk : 1 ≤ k) : ∀ (p : Tx) (l : Loc), VS l n → (∀ c ∈ p, N37 c) → ∃ (o : Tx) (l' : Loc), lcGo (evC (CF k) [] .nil) (evE (CF k) [] e_law_otherwise_0) (.n 3) (p.map fun c => .str [c]) [A, some (.r n), B, D0] l = .ok ((o.map fun c => ([c] : Tx)).map fun s => W.d (.str s)) l' ∧ o.length = p.length ∧ Alt p o ∧ VS l' n
  | [], l, h, _ => ⟨[], l, rfl, rfl, .nil, h⟩
  | c :: p, l, h, hp => by
    obtain ⟨x, l1, e1, g1, v1⟩ := ow_e (A := A) (B := B) hk h (hp c List.mem_cons_self)
    obtain ⟨o, l2, e2, n2, a2, v2⟩ := ow_lc (A := A) (B := B) (D0 := D0) hk p l1 v1 fun x hx => hp x (List.mem_cons_of_mem _ hx)
    refine ⟨x :: o, l2, ?_, by simp [n2], .cons (n37_95 (hp c List.mem_cons_self)) g1 a2, v2⟩
    rw [List.map_cons]
    unfold lcGo
    have hc : evC (CF k) [] .nil [A, some (.r n), B, some (.d (.str [c]))] l = .ok true l := rfl
    simp only [asgT, List.set, ret_some, Res.bind_ok, hc, e1, e2, List.map_cons]
theorem otherwise {k n : Nat} {l : Loc} {p : Tx} (hk : 2 ≤ k) (h : VS l n) (hp : Nm p) : ∃ o l', cl k f_law_otherwise [.d (.str p), .r n] [] l = .ok (.d (.str o)) l' ∧ o.length ≤ 27 ∧ nameD o = .str p ∧ VS l' n := by
  obtain ⟨k, rfl⟩ := pos_of (show 1 ≤ k by omega)
  rw [cl_eq (df := d_law_otherwise) rfl rfl]
  have pl := hp.l
  obtain ⟨o, l1, e1, n1, a1, v1⟩ := ow_lc (k := k) (A := some (.d (.str p))) (B := none) (D0 := none) (by omega) p l h (gd_chars hp.g)
  obtain ⟨x, l2, e2, x0, x1, v2⟩ := digit (k := k) (base := 3) (by omega) v1 (by omega) (by omega)
  obtain ⟨y, l3, e3, y0, y1, v3⟩ := digit (k := k) (base := 2) (by omega) v2 (by omega) (by omega)
  obtain ⟨pre, ep, bpre⟩ : ∃ pre, atD [D.str [], .str [32], .str [45]] x = some (.str pre) ∧ pre.length ≤ 1 ∧ ∀ c ∈ pre, c ∈ B3 := by
    have hx : x = 0 ∨ x = 1 ∨ x = 2 := by omega
    rcases hx with rfl | rfl | rfl
    · exact ⟨_, rfl, by simp, by decide⟩
    · exact ⟨_, rfl, by simp, by decide⟩
    · exact ⟨_, rfl, by simp, by decide⟩
  obtain ⟨suf, es, bsuf⟩ : ∃ suf, atD [D.str [], .str [95, 32]] y = some (.str suf) ∧ suf.length ≤ 2 ∧ ∀ c ∈ suf, c ∈ B3 := by
    have hy : y = 0 ∨ y = 1 := by omega
    rcases hy with rfl | rfl
    · exact ⟨_, rfl, by simp, by decide⟩
    · exact ⟨_, rfl, by simp, by decide⟩
  have m1 : ∀ l, mkLst false [] [W.d (.str []), .d (.str [32]), .d (.str [45])] l = .ok (.d (.lst [.str [], .str [32], .str [45]])) l := fun _ => rfl
  have m2 : ∀ l, mkLst false [] [W.d (.str []), .d (.str [95, 32])] l = .ok (.d (.lst [.str [], .str [95, 32]])) l := fun _ => rfl
  have hmk := mkl (xs := o.map fun c => ([c] : Tx)) (fx := []) (l := l1) (by rw [List.length_map]; omega)
  have hsum := sum_one o
  have hj := smj (xs := o.map fun c => ([c] : Tx)) (sep := []) (fx := []) (l := l1) (by rw [hsum]; simp; omega)
  rw [join_nil, flat_one] at hj
  generalize o.map (fun c => ([c] : Tx)) = os at *
  have s1 := add_s (a := pre) (b := o) (by omega)
  have s2 := add_s (a := pre ++ o) (b := suf) (by simp only [List.length_append]; omega)
  refine ⟨pre ++ o ++ suf, l3, ?_, by simp only [List.length_append]; omega, name_alt hp.name a1 bpre.2 bsuf.2, v3⟩
  simp only [List.append_assoc] at s2 ⊢
  simp [d_law_otherwise, evSs, evS, evE, evL, startE, asgT, itms, wipeE, e1, noExc, hmk, rcv, hj, e2, e3, m1, m2, idxW, ep, es, op2W, pk, op2, s1, s2, Out.res]
/-! what is asked -/
def askA : Asker := ⟨1, 2, 0, .tup (.cons (.c (.str refT)) (.cons (.c (.str [111, 116, 104, 101, 114])) .nil)), .str toldT, s_law_asked_0⟩
theorem askA_eq : askOf d_law_asked = some askA := by rfl
theorem sub10 : pg.subF 1 0 = some true := by decide +kernel
theorem sub20 : pg.subF 2 0 = some true := by decide +kernel
theorem sub11 : pg.subF 1 1 = some true := by decide +kernel
theorem sub12 : pg.subF 1 2 = some false := by decide +kernel
theorem sub21 : pg.subF 2 1 = some false := by decide +kernel
theorem sub22 : pg.subF 2 2 = some true := by decide +kernel
theorem asked_ok {k : Nat} {x : D} {fx l : Loc} (h : noIns x = true) : (CF k).ask f_law_asked (.ok (.d x) l) fx = .ok (.d (.tup [.str toldT, x])) l := by
  haveI : Tbs := ⟨[]⟩
  rw [CF_ask, ask_val (df := d_law_asked) rfl askA_eq]
  simp [h, askA]
theorem asked1 {k : Nat} {fx l : Loc} : (CF k).ask f_law_asked (.exc 1 .non l) fx = .ok (.d (.tup [.str refT, .str nameT])) l := by
  haveI : Tbs := ⟨[]⟩
  rw [CF_ask, ask_val (df := d_law_asked) rfl askA_eq]
  have ha : atD [D.str nameT, .str ruleT] 0 = some (.str nameT) := rfl
  simp [askA, sub10, d_law_asked, s_law_asked_0, evSs, evS, evE, evT, evL, isxW, sub11, sub12, mkLst, unW, asgT, biD, idxW, ha, okD, op2W, op2, eqO, eqD, trW, pk, trD, outS, outE, outO, noInsW, noIns, noInsL, slotV]
theorem asked2 {k : Nat} {fx l : Loc} : (CF k).ask f_law_asked (.exc 2 .non l) fx = .ok (.d (.tup [.str refT, .str ruleT])) l := by
  haveI : Tbs := ⟨[]⟩
  rw [CF_ask, ask_val (df := d_law_asked) rfl askA_eq]
  have ha : atD [D.str nameT, .str ruleT] 1 = some (.str ruleT) := rfl
  simp [askA, sub20, d_law_asked, s_law_asked_0, evSs, evS, evE, evT, evL, isxW, sub21, sub22, mkLst, unW, asgT, biD, idxW, ha, okD, op2W, op2, eqO, eqD, trW, pk, trD, outS, outE, outO, noInsW, noIns, noInsL, slotV]
/-! one turn -/
theorem turn {k : Nat} {l : Loc} {i : Int} {A b2 b3 b4 b5 b6 b7 b8 : Option W} (hk : 8 ≤ k) : ∃ (c2 c3 c4 c5 c6 c7 c8 : Option W) (l' : Loc), evSs (CF k) [] b_law_0 [A, some (.d (.int i)), b2, b3, b4, b5, b6, b7, b8] l = .nx [A, some (.d (.int i)), c2, c3, c4, c5, c6, c7, c8] l' := by
  obtain ⟨l1, e1, v1⟩ := state (k := k) (l := l) (i := i) (by omega)
  generalize hn : l.length = n at *
  obtain ⟨s, l2, e2, hs, v2⟩ := stem (k := k) (by omega) v1
  obtain ⟨a, l3, e3, ha, v3⟩ := beside (k := k) (by omega) v2 hs
  obtain ⟨t1, l4, e4, ht1, v4⟩ := stem (k := k) (by omega) v3
  obtain ⟨t2, l5, e5, ht2, v5⟩ := stem (k := k) (by omega) v4
  obtain ⟨t3, l6, e6, ht3, v6⟩ := beside (k := k) (by omega) v5 hs
  obtain ⟨t4, l7, e7, ht4, v7⟩ := beside (k := k) (by omega) v6 ha
  obtain ⟨x, l8, ex, x0, x1, v8⟩ := digit (k := k) (base := 4) (by omega) v7 (by omega) (by omega)
  obtain ⟨t, et, ht⟩ : ∃ t, atD [D.str t1, .str t2, .str t3, .str t4] x = some (.str t) ∧ Nm t := by
    have hx : x = 0 ∨ x = 1 ∨ x = 2 ∨ x = 3 := by omega
    rcases hx with rfl | rfl | rfl | rfl
    · exact ⟨t1, rfl, ht1⟩
    · exact ⟨t2, rfl, ht2⟩
    · exact ⟨t3, rfl, ht3⟩
    · exact ⟨t4, rfl, ht4⟩
  obtain ⟨oa, l9, ea, la, na, v9⟩ := otherwise (k := k) (by omega) v8 ha
  obtain ⟨os, l10, es, ls, ns, v10⟩ := otherwise (k := k) (by omega) v9 hs
  obtain ⟨ot, l11, eo, lt, nt, v11⟩ := otherwise (k := k) (by omega) v10 ht
  have al := ha.l
  have sl := hs.l
  have tl := ht.l
  have i1 := ro_ (is_of (k := k) (fx := [] ++ l11) (l := []) (by omega) (show oa.length ≤ 1000 by omega) (show os.length ≤ 1000 by omega) na ns al sl)
  have i2 := ro_ (is_of (k := k) (fx := [] ++ l11) (l := []) (by omega) (show ot.length ≤ 1000 by omega) (show oa.length ≤ 1000 by omega) nt na tl al)
  have j1 := ro_ (law_in (k := k) (fx := [] ++ l11) (l := []) (by omega) (show a.length ≤ 1000 by omega) (show s.length ≤ 1000 by omega))
  have j2 := ro_ (law_in (k := k) (fx := [] ++ l11) (l := []) (by omega) (show t.length ≤ 1000 by omega) (show a.length ≤ 1000 by omega))
  have du := ro_ (law_due (k := k) (a := a) (b := s) (c := t) (fx := [] ++ l11) (l := []) (by omega) (by omega) (by omega) (by omega))
  have mv := fun fx => moved (k := k) (fx := fx) (l := []) (by omega) (show oa.length ≤ 1000 by omega) (show os.length ≤ 1000 by omega) (show ot.length ≤ 1000 by omega) ha hs ht na ns nt
  have q0 : atD [D.str oa, .str os, .str ot] 0 = some (.str oa) := rfl
  have q1 : atD [D.str oa, .str os, .str ot] 1 = some (.str os) := rfl
  have q2 : atD [D.str oa, .str os, .str ot] 2 = some (.str ot) := rfl
  have m1 : mkLst false [] [W.d (.str a), .d (.str s), .d (.str t)] l8 = .ok (.d (.lst [.str a, .str s, .str t])) l8 := rfl
  have m2 : mkLst false [] [W.d (.str oa), .d (.str os), .d (.str ot)] l11 = .ok (.d (.lst [.str oa, .str os, .str ot])) l11 := rfl
  have m3 : mkLst false [] [W.d (.str t1), .d (.str t2), .d (.str t3), .d (.str t4)] l7 = .ok (.d (.lst [.str t1, .str t2, .str t3, .str t4])) l7 := rfl
  have a1 : evS (CF k) [] (.asg (.n 2) (.call false f_law_state (.cons (.v 1) .nil))) [A, some (.d (.int i)), b2, b3, b4, b5, b6, b7, b8] l = .nx [A, some (.d (.int i)), some (.r n), b3, b4, b5, b6, b7, b8] l1 := by
    simp [evS, evE, evL, asgT, e1]
  have a2 : evS (CF k) [] (.asg (.n 3) (.call false f_law_stem (.cons (.v 2) .nil))) [A, some (.d (.int i)), some (.r n), b3, b4, b5, b6, b7, b8] l1 = .nx [A, some (.d (.int i)), some (.r n), some (.d (.str s)), b4, b5, b6, b7, b8] l2 := by
    simp [evS, evE, evL, asgT, e2]
  have a3 : evS (CF k) [] (.asg (.n 4) (.call false f_law_beside (.cons (.v 2) (.cons (.v 3) .nil)))) [A, some (.d (.int i)), some (.r n), some (.d (.str s)), b4, b5, b6, b7, b8] l2 = .nx [A, some (.d (.int i)), some (.r n), some (.d (.str s)), some (.d (.str a)), b5, b6, b7, b8] l3 := by
    simp [evS, evE, evL, asgT, e3]
  have a4 : evS (CF k) [] (.asg (.n 5) (.idx (.lst false (.cons (.call false f_law_stem (.cons (.v 2) .nil)) (.cons (.call false f_law_stem (.cons (.v 2) .nil)) (.cons (.call false f_law_beside (.cons (.v 2) (.cons (.v 3) .nil))) (.cons (.call false f_law_beside (.cons (.v 2) (.cons (.v 4) .nil))) .nil))))) (.call false f_law_digit (.cons (.v 2) (.cons (.c (.int 4)) .nil))))) [A, some (.d (.int i)), some (.r n), some (.d (.str s)), some (.d (.str a)), b5, b6, b7, b8] l3 = .nx [A, some (.d (.int i)), some (.r n), some (.d (.str s)), some (.d (.str a)), some (.d (.str t)), b6, b7, b8] l8 := by
    simp [evS, evE, evL, asgT, e4, e5, e6, e7, m3, ex, idxW, et]
  have hlc : lcGo (evC (CF k) [] .nil) (evE (CF k) [] e_law_0) (.n 8) [.str a, .str s, .str t] [A, some (.d (.int i)), some (.r n), some (.d (.str s)), some (.d (.str a)), some (.d (.str t)), b6, b7, none] l8 = .ok [.d (.str oa), .d (.str os), .d (.str ot)] l11 := by
    simp [lcGo, asgT, e_law_0, evE, evL, evC, ea, es, eo]
  have a5 : evS (CF k) [] (.asg (.n 6) (.lc false (.n 8) .lst (.cons (.lst false (.cons (.v 4) (.cons (.v 3) (.cons (.v 5) .nil)))) .nil) .nil e_law_0 [("_law_one", 8)])) [A, some (.d (.int i)), some (.r n), some (.d (.str s)), some (.d (.str a)), some (.d (.str t)), b6, b7, b8] l8 = .nx [A, some (.d (.int i)), some (.r n), some (.d (.str s)), some (.d (.str a)), some (.d (.str t)), some (.d (.lst [.str oa, .str os, .str ot])), b7, b8] l11 := by
    simp [evS, evE, evL, asgT, m1, itms, wipeE, hlc, noExc, m2]
  have m4 : ∀ x y : Bool, mkLst false [] [W.d (.bl x), .d (.bl y)] l11 = .ok (.d (.lst [.bl x, .bl y])) l11 := fun _ _ => rfl
  have a6 : evS (CF k) [] (.asg (.n 7) (.lst false (.cons (.call true f_is_of (.cons (.idx (.v 6) (.c (.int 0))) (.cons (.idx (.v 6) (.c (.int 1))) .nil))) (.cons (.call true f_is_of (.cons (.idx (.v 6) (.c (.int 2))) (.cons (.idx (.v 6) (.c (.int 0))) .nil))) .nil)))) [A, some (.d (.int i)), some (.r n), some (.d (.str s)), some (.d (.str a)), some (.d (.str t)), some (.d (.lst [.str oa, .str os, .str ot])), b7, b8] l11 = .nx [A, some (.d (.int i)), some (.r n), some (.d (.str s)), some (.d (.str a)), some (.d (.str t)), some (.d (.lst [.str oa, .str os, .str ot])), some (.d (.lst [.bl (inF a s), .bl (inF t a)])), b8] l11 := by
    simp [evS, evE, evL, asgT, idxW, q0, q1, q2, i1, i2, m4]
  have q3 : atD [D.bl (inF a s), .bl (inF t a)] 0 = some (.bl (inF a s)) := rfl
  have he : eqD (.lst [.bl (inF a s), .bl (inF t a)]) (.lst [.bl (inF a s), .bl (inF t a)]) = true := by
    cases inF a s <;> cases inF t a <;> rfl
  have a7 : evS (CF k) [] (.ifs (.or (.e (.op .ne (.v 7) (.lst false (.cons (.call true f_law_in (.cons (.v 4) (.cons (.v 3) .nil))) (.cons (.call true f_law_in (.cons (.v 5) (.cons (.v 4) .nil))) .nil))))) (.not (.e (.bi (.isi .bool) (.idx (.v 7) (.c (.int 0))))))) (.cons (.ret (.c (.bl false))) .nil) .nil) [A, some (.d (.int i)), some (.r n), some (.d (.str s)), some (.d (.str a)), some (.d (.str t)), some (.d (.lst [.str oa, .str os, .str ot])), some (.d (.lst [.bl (inF a s), .bl (inF t a)])), b8] l11 = .nx [A, some (.d (.int i)), some (.r n), some (.d (.str s)), some (.d (.str a)), some (.d (.str t)), some (.d (.lst [.str oa, .str os, .str ot])), some (.d (.lst [.bl (inF a s), .bl (inF t a)])), b8] l11 := by
    simp [evS, evE, evL, evT, j1, j2, m4, op2W, pk, op2, eqO, okD, okL, he, trW, trD, idxW, q3, biD, isTy, evSs]
  have a8 : evS (CF k) [] (.ifs (.e (.op .ne (.ask f_law_asked q_law_0) (.call true f_law_due (.cons (.v 4) (.cons (.v 3) (.cons (.v 5) .nil)))))) (.cons (.ret (.c (.bl false))) .nil) .nil) [A, some (.d (.int i)), some (.r n), some (.d (.str s)), some (.d (.str a)), some (.d (.str t)), some (.d (.lst [.str oa, .str os, .str ot])), some (.d (.lst [.bl (inF a s), .bl (inF t a)])), b8] l11 = .nx [A, some (.d (.int i)), some (.r n), some (.d (.str s)), some (.d (.str a)), some (.d (.str t)), some (.d (.lst [.str oa, .str os, .str ot])), some (.d (.lst [.bl (inF a s), .bl (inF t a)])), b8] l11 := by
    have mv' := mv ([] ++ l11)
    unfold dueD at du
    by_cases q : inF s t = true ∨ inF t s = true ∨ inF a s = false
    · rw [if_pos q] at mv' du
      have e9 := roe_ mv'
      have hq : eqD (.tup [.str refT, .str ruleT]) (.tup [.str refT, .str ruleT]) = true := by decide +kernel
      simp [q_law_0, evS, evE, evL, evT, idxW, q0, q1, q2, e9, asked2, du, op2W, pk, op2, eqO, okD, okL, hq, trW, trD, evSs]
    · rw [if_neg q] at mv' du
      generalize hf : t ++ a.drop s.length = f at *
      by_cases q' : 24 < f.length ∨ 3 < f.count 47
      · rw [if_pos q'] at mv' du
        have e9 := roe_ mv'
        have hq : eqD (.tup [.str refT, .str nameT]) (.tup [.str refT, .str nameT]) = true := by decide +kernel
        simp [q_law_0, evS, evE, evL, evT, idxW, q0, q1, q2, e9, asked1, du, op2W, pk, op2, eqO, okD, okL, hq, trW, trD, evSs]
      · rw [if_neg q'] at mv' du
        have e9 := ro_ mv'
        have e10 := asked_ok (k := k) (x := .str f) (fx := []) (l := l11) rfl
        have hq : eqD (.tup [.str toldT, .str f]) (.tup [.str toldT, .str f]) = true := by simp [eqD, eqL]
        simp [q_law_0, evS, evE, evL, evT, idxW, q0, q1, q2, e9, e10, du, op2W, pk, op2, eqO, okD, okL, hq, trW, trD, evSs]
  refine ⟨some (.r n), some (.d (.str s)), some (.d (.str a)), some (.d (.str t)), some (.d (.lst [.str oa, .str os, .str ot])), some (.d (.lst [.bl (inF a s), .bl (inF t a)])), b8, l11, ?_⟩
  unfold b_law_0
  simp only [evSs, a1, a2, a3, a4, a5, a6, a7, a8, Out.thn_nx]
theorem law_for {k : Nat} {A : Option W} (hk : 8 ≤ k) : ∀ (ns : List Int) (l : Loc) (b1 b2 b3 b4 b5 b6 b7 b8 : Option W), ∃ (ρ' : Env) (l' : Loc), forGo (evSs (CF k) [] b_law_0) (.n 1) (ns.map .int) [A, b1, b2, b3, b4, b5, b6, b7, b8] l = .nx ρ' l'
  | [], l, b1, b2, b3, b4, b5, b6, b7, b8 => ⟨_, l, rfl⟩
  | i :: ns, l, b1, b2, b3, b4, b5, b6, b7, b8 => by
    obtain ⟨c2, c3, c4, c5, c6, c7, c8, l1, e⟩ := turn (A := A) (l := l) (i := i) (b2 := b2) (b3 := b3) (b4 := b4) (b5 := b5) (b6 := b6) (b7 := b7) (b8 := b8) hk
    obtain ⟨ρ', l2, e2⟩ := law_for hk ns l1 (some (.d (.int i))) c2 c3 c4 c5 c6 c7 c8
    refine ⟨ρ', l2, ?_⟩
    rw [List.map_cons]
    unfold forGo
    simp only [asgT, List.set]
    rw [e]
    exact e2
theorem law_run (ns : List Int) (hl : ns.length ≤ 63) (_ : ∀ z ∈ ns, PySem.Builtin.Int.intBits z ≤ 1048576) : ∃ l', Vx.call pg.subF pg.dfs 10 f_law [.d (.lst (ns.map D.int))] [] [] = .ok (.d (.bl true)) l' := by
  have hc : ∃ ms : List Int, Vx.cut (ns.map D.int ++ [.int 0]) none (some 14) = ms.map D.int := by
    refine ⟨Vx.cut (ns ++ [0]) none (some 14), ?_⟩
    unfold Vx.cut
    simp
  obtain ⟨ms, hm⟩ := hc
  obtain ⟨ρ', l', e⟩ := law_for (k := 9) (A := some (.d (.lst (ns.map D.int)))) (by omega) ms [] none none none none none none none none
  refine ⟨l', ?_⟩
  have h1 : (ns.map D.int).length + ([D.int 0] : List D).length ≤ 16777216 := by simp; omega
  have hadd : addD (.lst (ns.map D.int)) (.lst [.int 0]) = some (.lst (ns.map D.int ++ [.int 0])) := by
    show (if _ then _ else _) = _
    rw [if_pos h1]
  show cl (9 + 1) f_law _ [] [] = _
  rw [cl_eq (df := d_law) rfl rfl]
  simp [d_law, evSs, evS, evE, evO, evL, startE, mkLst, unW, op2W, pk, op2, hadd, slD, hm, itms, e, Out.res]
end Vx

open PySem PySem.W PySem.Calls PyProof.Rows
theorem PySem.Challenge.cw_signsleft_k03_families_holds : PySem.Challenge.rw_signsleft_k03_families.Holds := by
  w_on; o_law
  refine HandSHeadRun.head_any (r := OpenLaw.row PySem.Challenge.rw_signsleft_k03_families) (q := view (OpenLaw.row PySem.Challenge.rw_signsleft_k03_families).prog [29]) (H := Vx.hk) (ob := Vx.ob) (M := 6000) (loose := Vx.loose) (d := HandSHeadRun.topDef (OpenLaw.row PySem.Challenge.rw_signsleft_k03_families).prog 29) (kwd := []) Vx.ob_eq
    (by kernel_rfl) (fun s => by kernel_rfl) Vx.run (by kernel_rfl) (by kernel_rfl) (by kernel_rfl) (by rfl) (by first | assumption | decide +kernel) (by decide +kernel) ⟨rfl, rfl, rfl, rfl, rfl, by decide +kernel⟩ ?hw ?hc
  case hw => w_witness2
  case hc =>
    exact Vx.Pg.end_ (p := Vx.pg) (l := PySem.Challenge.rw_signsleft_k03_families) (n := 63) (k := 10) (f := 18) (x := "_law_script") rfl (by decide) (by kernel_rfl) ⟨rfl, by decide, by decide⟩ (by kernel_rfl) rfl (by decide +kernel) (Vx.plain_of Vx.pg_plain Vx.pg_ps) rfl Vx.pg_chk (by decide +kernel) (by decide +kernel) (by decide +kernel) Vx.law_run
