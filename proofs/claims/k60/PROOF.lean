import PyProof.Rows.All
import Wide.All
import OpenK.AllK
import Wide.FinOn
import KE.KStateDown
import HandS.ForMost
import HandS.ForSpec
import HandS.StrMore
import HandS.IsInst
import HandS.HeadHook3
import KE.DataEq
import HandS.ReplaceLit
import HandS.ReplaceList
import HandS.ReplaceDef
import HandS.Lambda
import HandS.NoneIn
import HandS.DictTup
import HandS.TupLe
import HandS.TupAny
import PyProof.Rows.RegReprOcc
import PyProof.MeetsStr3
import PyProof.EqAt
import PyProof.P3In
import HandS.ExcIs
import HandS.Defaults
import HandS.CallSlots
import HandS.Ends
import HandS.Head0
import HandS.Head1
import HandS.Head2
import HandS.HeadEnd
import HandS.HeadHook4
import HandS.HeadWalk
import PySem.Challenge.RW_signsleft_k60_rows_of_deeds
set_option Elab.async false
set_option linter.all false
set_option maxRecDepth 100000
set_option autoImplicit false
set_option maxHeartbeats 4000000
/-! ### data, the printed form, the evaluator -/
namespace Vx
open PySem L2

abbrev Tx := List Nat

/-- data, without a heap -/
inductive D where
  | non | bl (b : Bool) | int (i : Int) | str (s : Tx)
  | tup (ds : List D) | lst (ds : List D)
  /-- a dict: its items, each a tup [key, value] -/
  | dct (ds : List D)
  /-- an instance of the c-th class, its fields in order -/
  | ins (c : Nat) (ds : List D)
instance : Inhabited D := ⟨.non⟩
/-- a value: data, or a mutable object of the store -/
inductive W where
  | d (x : D) | r (n : Nat)
instance : Inhabited W := ⟨.d .non⟩
/-- an object of the store: a list; a dict, how often it was changed, its items (keys: None, ints, texts; or tuples of these); an instance of the c-th class, its fields in the order in which they came; a tuple that holds objects -/
inductive Obj where
  | lst (ws : List W) | dct (ver : Nat) (ks : List (D × W)) | ins (c : Nat) (ws : List W) | tup (ws : List W) | dead
/-- what a walk comes to: a value, or the values of a tuple -/
inductive Itm where
  | one (w : W) | many (ws : List W)
abbrev Env := List (Option W)
abbrev Loc := List Obj

inductive Res (α : Type) where
  | ok (a : α) (l : Loc) | exc (c : Nat) (p : D) (l : Loc) | bad
def Res.bind {α β : Type} (r : Res α) (f : α → Loc → Res β) : Res β := match r with
  | .ok a l => f a l
  | .exc c p l => .exc c p l
  | .bad => .bad
@[simp] theorem Res.bind_ok {α β : Type} (a : α) (l : Loc) (f : α → Loc → Res β) : (Res.ok a l).bind f = f a l := rfl
@[simp] theorem Res.bind_exc {α β : Type} (c : Nat) (p : D) (l : Loc) (f : α → Loc → Res β) : (Res.exc c p l).bind f = .exc c p l := rfl
@[simp] theorem Res.bind_bad {α β : Type} (f : α → Loc → Res β) : (Res.bad : Res α).bind f = .bad := rfl
/-- a pure end -/
def ret {α : Type} (o : Option α) (l : Loc) : Res α := match o with
  | some a => .ok a l
  | none => .bad
@[simp] theorem ret_some {α : Type} (a : α) (l : Loc) : ret (some a) l = .ok a l := rfl
@[simp] theorem ret_none {α : Type} (l : Loc) : ret (none : Option α) l = .bad := rfl
inductive Out where
  | nx (ρ : Env) (l : Loc) | rt (w : W) (l : Loc) | bk (ρ : Env) (l : Loc) | ct (ρ : Env) (l : Loc) | exc (c : Nat) (p : D) (ρ : Env) (l : Loc) | bad

/-! ### the printed form -/
inductive Op2 where
  | add | sub | mul | fdiv | mod | pow | eq | ne | lt | le | gt | ge | isin | notin | isv | isnot
  deriving DecidableEq
/-- what a loop walks -/
inductive Ik where
  | lst | tup | str | rng1 | rng2 | enum | zip | items | keys
  deriving DecidableEq
/-- a target: a name, a tuple of names -/
inductive Tg where
  | n (i : Nat) | t (is : List Nat)
  deriving DecidableEq
/-- a type that isinstance asks -/
inductive Ty where
  | str | bool | int | lst | tup | cls (c : Nat)
  deriving DecidableEq
/-- built-in functions -/
inductive Bi where
  | len | abs | int | isi (t : Ty) | tup | lst
  deriving DecidableEq
/-- methods of built-in types -/
inductive Sm where
  | split | join | lower | upper | index | append | find | partition | starts | ends | get | lindex | lcount | count | rstrip | rpart | update
  deriving DecidableEq
mutual
inductive Ex where
  | c (x : D)
  | v (i : Nat)
  | g (x : Str) (d : D)
  | op (o : Op2) (a b : Ex)
  | chain (o1 o2 : Op2) (a b c : Ex)
  | and (a b : Ex) | or (a b : Ex) | not (a : Ex)
  | neg (a : Ex)
  | ite (c : Te) (a b : Ex)
  | tup (es : Exs)
  | lst (m : Bool) (es : Exs)
  | idx (a i : Ex)
  | sl (a : Ex) (lo hi : Eo)
  | call (ro : Bool) (f : Nat) (es : Exs) (d : Nat)
  | bi (b : Bi) (a : Ex)
  | sm (m : Sm) (o : Ex) (es : Exs)
  | lc (m : Bool) (tg : Tg) (k : Ik) (ie : Exs) (cs : Tes) (e : Ex) (own : List (Str × Nat))
  | frz (e : Ex)
  | dnew
  /-- {}, never changed -/
  | dnewF
  /-- isinstance(e, C), C the c-th own exception class -/
  | isx (c : Nat) (a : Ex)
  /-- X.get(e), X.get(e, f), X[e], X a dict of the module with text keys -/
  | tget (x : Str) (kvs : List (Tx × D)) (a : Ex)
  | tget2 (x : Str) (kvs : List (Tx × D)) (a b : Ex)
  | tix (x : Str) (kvs : List (Tx × D)) (a : Ex)
  /-- {k: v, ..}.get(e, f) of texts -/
  | dlget (kvs : List (Tx × Tx)) (a b : Ex)
  | dlget1 (kvs : List (Tx × Tx)) (a : Ex)
  /-- o.replace(y, z) of written texts; just as a def's one value -/
  | repl (y z : Tx) (o : Ex)
  /-- a call of the local that holds a lambda -/
  | act (i : Nat)
  /-- g(lambda: body) -/
  | ask (g : Nat) (body : Ex)
  /-- what is not printed -/
  | no
  /-- len of an object of the store -/
  | len (e : Ex)
  /-- o.f, o.m(..), C(..); fields, methods, classes by number -/
  | fld (f : Nat) (o : Ex)
  | meth (ro : Bool) (m : Nat) (o : Ex) (es : Exs) (d : Nat)
  | make (c : Nat) (es : Exs)
  /-- list(e), a new object -/
  | thw (e : Ex)
  /-- sorted(e), of a list or a dict; list(d), of a dict -/
  | srt (e : Ex)
  /-- max(a, b) of ints -/
  | max (a b : Ex)
  | kys (e : Ex)
/-- a test -/
inductive Te where
  | e (a : Ex) | and (a b : Te) | or (a b : Te) | not (a : Te)
inductive Exs where
  | nil | cons (e : Ex) (es : Exs)
inductive Tes where
  | nil | cons (e : Te) (es : Tes)
inductive Eo where
  | no | so (e : Ex)
end
mutual
inductive St where
  | asg (tg : Tg) (e : Ex)
  /-- x, y = a, b -/
  | par (i j : Nat) (a b : Ex)
  | setI (o i e : Ex)
  | setF (f : Nat) (o e : Ex)
  | ex (e : Ex)
  | ret (e : Ex)
  | ifs (c : Te) (a b : Sts)
  | for (tg : Tg) (k : Ik) (ie : Exs) (body : Sts)
  | whl (n : Nat) (c : Te) (body : Sts)
  | raise (c : Nat) (m : Str)
  /-- e: the slot of the name behind `as` -/
  | try (c : Nat) (e : Option Nat) (body suite : Sts)
  | pass
  /-- what is not printed -/
  | no
inductive Sts where
  | no | nil | cons (s : St) (r : Sts)
end
structure Def where
  np : Nat
  nl : Nat
  body : Sts

/-! ### operations on data -/
/-- a method of texts -/
def strM : Sm → Bool
  | .append => false
  | .get => false
  | .lindex => false
  | .lcount => false
  | .update => false
  | _ => true
/-- a method of lists of data -/
def lstM : Sm → Bool
  | .lindex => true
  | .lcount => true
  | _ => false
mutual
/-- no dict or instance, at most n deep -/
def okD : Nat → D → Bool
  | _, .non => true
  | _, .bl _ => true
  | _, .int _ => true
  | _, .str _ => true
  | n + 1, .tup ds => okL n ds
  | n + 1, .lst ds => okL n ds
  | _, _ => false
def okL : Nat → List D → Bool
  | _, [] => true
  | n, d :: ds => okD n d && okL n ds
end
mutual
def eqD : D → D → Bool
  | .non, .non => true
  | .bl a, .bl b => a == b
  | .bl a, .int j => (if a then 1 else 0) == j
  | .int i, .bl b => i == (if b then 1 else 0)
  | .int i, .int j => i == j
  | .str x, .str y => x == y
  | .lst xs, .lst ys => eqL xs ys
  | .tup xs, .tup ys => eqL xs ys
  | _, _ => false
def eqL : List D → List D → Bool
  | [], [] => true
  | x :: xs, y :: ys => eqD x y && eqL xs ys
  | _, _ => false
end
def anyD (d : D) : List D → Bool
  | [] => false
  | x :: xs => eqD x d || anyD d xs
/-- the index i (of any sign) among n -/
def ixn (n : Nat) (i : Int) : Option Nat := L2.ixN n i
def atD {α : Type} (xs : List α) (i : Int) : Option α := L2.atI xs i
def cut {α : Type} (xs : List α) (lo hi : Option Int) : List α := (xs.drop (HT.sIx xs.length 0 lo)).take (HT.sIx xs.length xs.length hi - HT.sIx xs.length 0 lo)
def big : Nat := 16777216
def fits (n : Nat) : Bool := Nat.ble n 16777216

def addD : D → D → Option D
  | .int i, .int j => some (.int (i + j))
  | .str a, .str b => if a.length + b.length ≤ 16777216 then some (.str (a ++ b)) else none
  | .lst a, .lst b => if a.length + b.length ≤ 16777216 then some (.lst (a ++ b)) else none
  | .tup a, .tup b => if a ≠ [] ∧ a.length + b.length ≤ 16777216 then some (.tup (a ++ b)) else none
  | _, _ => none
def subD : D → D → Option D
  | .int i, .int j => some (.int (i - j))
  | _, _ => none
def mulD : D → D → Option D
  | .int i, .int j => if (-(2 ^ 64) < i ∧ i < 2 ^ 64) ∨ (-(2 ^ 64) < j ∧ j < 2 ^ 64) then some (.int (i * j)) else none
  | .str s, .int k => if -9223372036854775808 ≤ k ∧ k < 9223372036854775808 ∧ s.length * k.toNat ≤ 16777216 then some (.str (List.replicate k.toNat s).flatten) else none
  | .lst a, .int k => if -9223372036854775808 ≤ k ∧ k < 9223372036854775808 ∧ a.length * k.toNat ≤ 16777216 then some (.lst (List.replicate k.toNat a).flatten) else none
  | _, _ => none
def fdivD : D → D → Option D
  | .int i, .int j => if 0 < j ∧ j < 1073741824 then some (.int (i / j)) else none
  | _, _ => none
def modD : D → D → Option D
  | .int i, .int j => if 0 < j then some (.int (i % j)) else none
  | _, _ => none
def powD : D → D → Option D
  | .int i, .int j => if 0 ≤ j ∧ j ≤ 1000000 ∧ i.natAbs < 2 ^ 64 then some (.int (i ^ j.toNat)) else none
  | _, _ => none
def eqO (a b : D) : Option Bool := if okD 12 a && okD 12 b then some (eqD a b) else none
def cmpI (f : Int → Int → Bool) : D → D → Option D
  | .int i, .int j => some (.bl (f i j))
  | _, _ => none
def inO : D → D → Option Bool
  | .str [c], .str s => some (decide (c ∈ s))
  | x, .lst ds => if okD 12 x && okL 12 ds then some (anyD x ds) else none
  | x, .tup ds => if okD 12 x && okL 12 ds then some (anyD x ds) else none
  | _, _ => none
def op2 : Op2 → D → D → Option D
  | .add, a, b => addD a b
  | .sub, a, b => subD a b
  | .mul, a, b => mulD a b
  | .fdiv, a, b => fdivD a b
  | .mod, a, b => modD a b
  | .pow, a, b => powD a b
  | .eq, a, b => (eqO a b).map .bl
  | .ne, a, b => (eqO a b).map fun t => .bl (!t)
  | .lt, a, b => cmpI (fun i j => decide (i < j)) a b
  | .le, a, b => cmpI (fun i j => decide (i ≤ j)) a b
  | .gt, a, b => cmpI (fun i j => decide (j < i)) a b
  | .ge, a, b => cmpI (fun i j => decide (j ≤ i)) a b
  | .isin, a, b => (inO a b).map .bl
  | .notin, a, b => (inO a b).map fun t => .bl (!t)
  | .isv, _, _ => none
  | .isnot, _, _ => none
def isNone : W → Bool
  | .d .non => true
  | _ => false
def isO : W → W → Option Bool
  | x, .d .non => some (isNone x)
  | .d (.bl a), .d (.bl b) => some (a == b)
  | _, _ => none
def unW : List W → Option (List D)
  | [] => some []
  | .d x :: ws => (unW ws).map (x :: ·)
  | .r _ :: _ => none
/-- what a value shows: data, or a mutable list of data -/
def pk (st : Loc) : W → Option D
  | .d x => some x
  | .r n => match st[n]? with
    | some (.lst ws) => (unW ws).map .lst
    | _ => none
def pkL (st : Loc) : List W → Option (List D)
  | [] => some []
  | w :: ws => (pk st w).bind fun d => (pkL st ws).map (d :: ·)
/-! dicts -/
/-- None, an int, a text -/
def isAt : D → Bool
  | .non => true
  | .int _ => true
  | .str _ => true
  | _ => false
/-- a key -/
def isKy : D → Bool
  | .tup ds => ds.all isAt
  | d => isAt d
def isTp : D → Bool
  | .tup _ => true
  | _ => false
/-- a key of the kind of this dict's keys -/
def kyOk (ks : List (D × W)) (k : D) : Bool := isKy k && match ks with
  | [] => true
  | p :: _ => isTp p.1 == isTp k
open Classical in
noncomputable def getK (ks : List (D × W)) (k : D) : Option W := match ks with
  | [] => none
  | p :: r => if p.1 = k then some p.2 else getK r k
open Classical in
noncomputable def repK (ks : List (D × W)) (k : D) (w : W) : List (D × W) := match ks with
  | [] => []
  | p :: r => if p.1 = k then (p.1, w) :: r else p :: repK r k w
open Classical in
noncomputable def delK (ks : List (D × W)) (k : D) : List (D × W) := match ks with
  | [] => []
  | p :: r => if p.1 = k then r else p :: delK r k
noncomputable def putK (ks : List (D × W)) (k : D) (w : W) : List (D × W) := match getK ks k with
  | some _ => repK ks k w
  | none => ks ++ [(k, w)]
/-- x in y -/
noncomputable def inW (st : Loc) (x y : W) : Option Bool := match y with
  | .r n => match st[n]? with
    | some (.dct _ ks) => match x with
      | .d k => if kyOk ks k then some (getK ks k).isSome else none
      | .r _ => none
    | _ => (pk st x).bind fun a => (pk st y).bind fun b => inO a b
  | y => (pk st x).bind fun a => (pk st y).bind fun b => inO a b
noncomputable def op2W (st : Loc) : Op2 → W → W → Option W
  | .isin, x, y => (inW st x y).map fun t => .d (.bl t)
  | .notin, x, y => (inW st x y).map fun t => .d (.bl (!t))
  | .isv, x, y => (isO x y).map fun t => .d (.bl t)
  | .isnot, x, y => (isO x y).map fun t => .d (.bl (!t))
  | o, x, y => (pk st x).bind fun a => (pk st y).bind fun b => (op2 o a b).map .d
/-- truth -/
def trD : D → Option Bool
  | .non => some false
  | .bl b => some b
  | .int i => some (i != 0)
  | .str s => if s.length ≤ 16777216 then some (!s.isEmpty) else none
  | .lst ds => some (!ds.isEmpty)
  | .tup ds => some (!ds.isEmpty)
  | _ => none
mutual
def noIns : D → Bool
  | .ins _ _ => false
  | .tup ds => noInsL ds
  | .lst ds => noInsL ds
  | .dct ds => noInsL ds
  | _ => true
def noInsL : List D → Bool
  | [] => true
  | d :: ds => noIns d && noInsL ds
end
def noInsW : W → Bool
  | .d x => noIns x
  | .r _ => true
def trW (st : Loc) (x : W) : Option Bool := (pk st x).bind trD
noncomputable def idxW (st : Loc) : W → W → Option W
  | .d (.lst ds), .d (.int i) => (atD ds i).map .d
  | .d (.tup ds), .d (.int i) => (atD ds i).map .d
  | .d (.str s), .d (.int i) => if s.length ≤ 16777216 then (atD s i).map fun c => .d (.str [c]) else none
  | .r n, .d k => match st[n]? with
    | some (.lst ws) => match k with
      | .int i => atD ws i
      | _ => none
    | some (.tup ws) => match k with
      | .int i => atD ws i
      | _ => none
    | some (.dct _ ks) => if kyOk ks k then getK ks k else none
    | _ => none
  | _, _ => none
def slD : D → Option Int → Option Int → Option D
  | .lst ds, lo, hi => some (.lst (cut ds lo hi))
  | .str s, lo, hi => if s.length ≤ 16777216 then some (.str (cut s lo hi)) else none
  | .tup ds, lo, hi => some (.tup (cut ds lo hi))
  | _, _, _ => none
def isTy : Ty → D → Option Bool
  | .str, .str _ => some true
  | .bool, .bl _ => some true
  | .int, .int _ => some true
  | .int, .bl _ => some true
  | .lst, .lst _ => some true
  | .tup, .tup _ => some true
  | .cls _, _ => none
  | _, .ins _ _ => none
  | _, _ => some false
def biD : Bi → D → Option D
  | .len, .str s => if s.length ≤ 16777216 then some (.int s.length) else none
  | .len, .lst ds => some (.int ds.length)
  | .len, .tup ds => some (.int ds.length)
  | .abs, .int i => some (.int (if i < 0 then -i else i))
  | .int, .int i => some (.int i)
  | .int, .bl b => some (.int (if b then 1 else 0))
  | .isi t, d => (isTy t d).map .bl
  | .tup, .tup ds => some (.tup ds)
  | .tup, .lst ds => some (.tup ds)
  | .lst, .tup ds => some (.lst ds)
  | .lst, .lst ds => some (.lst ds)
  | _, _ => none
def unStr : List D → Option (List Tx)
  | [] => some []
  | .str s :: ds => (unStr ds).map (s :: ·)
  | _ => none
def lowC (c : Nat) : Nat := if 65 ≤ c ∧ c ≤ 90 then c + 32 else c
def uppC (c : Nat) : Nat := if 97 ≤ c ∧ c ≤ 122 then c - 32 else c
/-- where p stands first in l, which begins at k -/
def firstAt (p : Tx) (k : Nat) : Tx → Option Nat
  | [] => none
  | c :: r => if TL.pre p (c :: r) then some k else firstAt p (k + 1) r
/-- the first place of an equal one -/
def ixD (d : D) : Nat → List D → Option Nat
  | _, [] => none
  | k, x :: xs => if eqD x d then some k else ixD d (k + 1) xs
/-- how often -/
def cntD (d : D) : List D → Nat
  | [] => 0
  | x :: xs => (if eqD x d then 1 else 0) + cntD d xs
def smD : Sm → D → List D → Option D
  | .lindex, .lst ds, [d] => if okL 12 ds && okD 12 d && Nat.ble ds.length 16777216 then (ixD d 0 ds).map fun k => .int (k : Int) else none
  | .lcount, .lst ds, [d] => if okL 12 ds && okD 12 d then some (.int (cntD d ds : Nat)) else none
  | .count, .str s, [.str [c]] => some (.int (s.count c : Nat))
  | .rstrip, .str s, [.str p] => if s.length ≤ 16777216 then some (.str (TL.tl (PySem.Txt.rstripChars ⟨s.toArray⟩ ⟨p.toArray⟩))) else none
  | .rpart, .str s, [.str p] => if p ≠ [] ∧ s.length ≤ 16777216 then some (.tup [.str (TL.tl (PySem.Txt.rpartition ⟨s.toArray⟩ ⟨p.toArray⟩).1), .str (TL.tl (PySem.Txt.rpartition ⟨s.toArray⟩ ⟨p.toArray⟩).2.1), .str (TL.tl (PySem.Txt.rpartition ⟨s.toArray⟩ ⟨p.toArray⟩).2.2)]) else none
  | .split, .str s, [.str p] => if p ≠ [] ∧ s.length + 2 ≤ 16777216 ∧ p.all (· < 256) then some (.lst ((TL.spl p 0 [] s).map .str)) else none
  | .join, .str s, [.tup ds] => (unStr ds).bind fun xs => if (xs.map List.length).sum + xs.length * s.length ≤ 16777216 then some (.str (TL.joinL s xs)) else none
  | .join, .str s, [.lst ds] => (unStr ds).bind fun xs => if (xs.map List.length).sum + xs.length * s.length ≤ 16777216 then some (.str (TL.joinL s xs)) else none
  | .lower, .str s, [] => if s.length ≤ 5592405 ∧ s.all (· < 128) then some (.str (s.map lowC)) else none
  | .upper, .str s, [] => if s.length ≤ 5592405 ∧ s.all (· < 128) then some (.str (s.map uppC)) else none
  | .find, .str s, [.str p] => if p ≠ [] then some (.int (match firstAt p 0 s with
    | some k => (k : Int)
    | none => -1)) else none
  | .find, .str s, [.str p, .int i] => if p ≠ [] ∧ 0 ≤ i then some (.int (match firstAt p i.toNat (s.drop i.toNat) with
    | some k => (k : Int)
    | none => -1)) else none
  | .partition, .str s, [.str p] => if p ≠ [] ∧ s.length ≤ 16777216 then some (.tup (match TL.par p [] s with
    | some (a, b) => [.str a, .str p, .str b]
    | none => [.str s, .str [], .str []])) else none
  | .starts, .str s, [.str p] => if p ≠ [] then some (.bl (TL.pre p s)) else none
  | .ends, .str s, [.str p] => if p ≠ [] then some (.bl (decide (p.length ≤ s.length) && TL.pre p (s.drop (s.length - p.length)))) else none
  | .index, .str s, [.str p] => if p ≠ [] then (firstAt p 0 s).map fun k => .int (k : Int) else none
  | _, _, _ => none
def small62 (i : Int) : Bool := Nat.ble i.natAbs 4611686018427387903
theorem small62_ok {i : Int} (h : small62 i = true) : -(2 ^ 62) ≤ i ∧ i < 2 ^ 62 := by
  have h' := Nat.le_of_ble_eq_true h
  omega
/-- the items that a loop walks -/
def itms (st : Loc) : Ik → List W → Option (List Itm)
  | .lst, [.d (.lst ds)] => some (ds.map fun d => .one (.d d))
  | .lst, [.r n] => match st[n]? with
    | some (.lst ws) => some (ws.map .one)
    | _ => none
  | .tup, [.d (.tup ds)] => some (ds.map fun d => .one (.d d))
  | .str, [.d (.str s)] => some (s.map fun c => .one (.d (.str [c])))
  | .rng1, [.d (.int n)] => if small62 n then some ((List.range n.toNat).map fun (i : Nat) => .one (.d (.int (i : Int)))) else none
  | .rng2, [.d (.int a), .d (.int b)] => if small62 a && small62 b then some ((List.range (b - a).toNat).map fun (i : Nat) => .one (.d (.int (a + (i : Int))))) else none
  | .keys, [.r n] => match st[n]? with
    | some (.dct _ ks) => if ks.all (fun p => isAt p.1) then some (ks.map fun p => .one (.d p.1)) else none
    | _ => none
  | .items, [.r n] => match st[n]? with
    | some (.dct _ ks) => if ks.all (fun p => isAt p.1) then some (ks.map fun p => .many [.d p.1, p.2]) else none
    | _ => none
  | _, _ => none
/-- the object that a walk leans on -/
def walked : Ik → List W → Option Nat
  | .lst, [.r n] => some n
  | .keys, [.r n] => some n
  | .items, [.r n] => some n
  | _, _ => none
/-- it stays as it was -/
def stays (o : Option Nat) (l0 l : Loc) : Prop := match o with
  | none => True
  | some n => l[n]? = l0[n]?
@[simp] theorem stays_none (l0 l : Loc) : stays none l0 l = True := rfl
@[simp] theorem stays_some (n : Nat) (l0 l : Loc) : stays (some n) l0 l = (l[n]? = l0[n]?) := rfl
def setMany : List Nat → List W → Env → Option Env
  | [], [], ρ => some ρ
  | i :: is, w :: ws, ρ => setMany is ws (ρ.set i (some w))
  | _, _, _ => none
def asgT (st : Loc) : Tg → W → Env → Option Env
  | .n i, w, ρ => some (ρ.set i (some w))
  | .t is, .d (.tup ds), ρ => if ds.length = is.length then setMany is (ds.map .d) ρ else none
  | .t is, .r n, ρ => match st[n]? with
    | some (.tup ws) => if ws.length = is.length then setMany is ws ρ else none
    | _ => none
  | _, _, _ => none
def asgI (st : Loc) : Tg → Itm → Env → Option Env
  | tg, .one w, ρ => asgT st tg w ρ
  | .t is, .many ws, ρ => if ws.length = is.length then setMany is ws ρ else none
  | _, _, _ => none
/-- the own names of a comprehension forgotten -/
def wipeE (ρ : Env) : List Nat → Env
  | [] => ρ
  | v :: vs => (wipeE ρ vs).set v none
noncomputable def setIW (l : Loc) : W → W → W → Option Loc
  | .r n, .d k, w => match l[n]? with
    | some (.lst ws) => match k with
      | .int i => (ixn ws.length i).map fun j => l.set n (.lst (ws.set j w))
      | _ => none
    | some (.dct v ks) => if kyOk ks k ∧ ks.length < 16777216 then some (l.set n (.dct (v + 1) (putK ks k w))) else none
    | _ => none
  | _, _, _ => none
def appW (l : Loc) (n : Nat) (w : W) : Option Loc := match l[n]? with
  | some (.lst ws) => if ws.length < 16777216 then some (l.set n (.lst (ws ++ [w]))) else none
  | _ => none
/-- a tuple made: data, or a new object -/
def mkTup (ws : List W) (l : Loc) : Res W := if ws.length ≤ 16777216 then (match unW ws with
    | some ds => .ok (.d (.tup ds)) l
    | none => .ok (.r l.length) (l ++ [.tup ws])) else .bad
/-- a list made: data, or a new object -/
def mkLst (m : Bool) (ws : List W) (l : Loc) : Res W := if ws.length ≤ 16777216 then (if m then .ok (.r l.length) (l ++ [.lst ws]) else ret ((unW ws).map fun ds => .d (.lst ds)) l) else .bad
/-- a mutable list of data, finished -/
def frzW : W → Loc → Res W
  | .d x, l => .ok (.d x) l
  | .r n, l => match l[n]? with
    | some (.lst ws) => (ret (unW ws) l).bind fun ds l => .ok (.d (.lst ds)) (l.set n .dead)
    | _ => .bad

def isLstW : Option D → Bool
  | some (.lst _) => true
  | _ => false
/-- the receiver is of the kind that the method is of -/
def rcv (st : Loc) : Sm → W → Bool
  | .append, .r n => match st[n]? with
    | some (.lst _) => true
    | _ => false
  | .append, _ => false
  | .get, .r n => match st[n]? with
    | some (.dct _ _) => true
    | _ => false
  | .get, _ => false
  | .update, .r n => match st[n]? with
    | some (.dct _ _) => true
    | _ => false
  | .update, _ => false
  | .lindex, x => isLstW (pk st x)
  | .lcount, x => isLstW (pk st x)
  | _, .d (.str _) => true
  | _, _ => false
/-- d.get(k), d.get(k, w) -/
noncomputable def getW (st : Loc) (x : W) (ws : List W) : Option W := match x with
  | .r n => match st[n]? with
    | some (.dct _ ks) => match ws with
      | [.d k] => if kyOk ks k then some ((getK ks k).getD (.d .non)) else none
      | [.d k, w] => if kyOk ks k then some ((getK ks k).getD w) else none
      | _ => none
    | _ => none
  | _ => none
noncomputable def updK : List (D × W) → List (D × W) → Option (List (D × W))
  | ks, [] => some ks
  | ks, p :: r => if kyOk ks p.1 ∧ ks.length < 16777216 then updK (putK ks p.1 p.2) r else none
/-- d.update(e); into an empty dict not more than one item (the model wants hashes that differ) -/
noncomputable def updW (l : Loc) (x : W) (ws : List W) : Option Loc := match x, ws with
  | .r n, [.r m] => match l[n]?, l[m]? with
    | some (.dct v ks), some (.dct _ ls) => if n ≠ m ∧ (ks ≠ [] ∨ ls.length ≤ 1) then (updK ks ls).map fun ks => l.set n (.dct (v + 1) ks) else none
    | _, _ => none
  | _, _ => none
noncomputable def smW (m : Sm) (x : W) (ws : List W) (l : Loc) : Res W := match m with
  | .append => match x, ws with
    | .r n, [w] => (ret (appW l n w) l).bind fun l _ => .ok (.d .non) l
    | _, _ => .bad
  | .get => ret (getW l x ws) l
  | .update => (ret (updW l x ws) l).bind fun l _ => .ok (.d .non) l
  | m => ret ((pk l x).bind fun d => (pkL l ws).bind fun ds => (smD m d ds).map .d) l
/-! sorted -/
def ltX : Tx → Tx → Bool
  | [], [] => false
  | [], _ :: _ => true
  | _ :: _, [] => false
  | a :: x, b :: y => if a = b then ltX x y else Nat.blt a b
def ltA : D → D → Option Bool
  | .int i, .int j => some (decide (i < j))
  | .str x, .str y => some (ltX x y)
  | _, _ => none
def ltL : List D → List D → Option Bool
  | [], [] => some false
  | [], _ :: _ => some true
  | _ :: _, [] => some false
  | x :: xs, y :: ys => if eqD x y then ltL xs ys else ltA x y
def ltD : D → D → Option Bool
  | .tup xs, .tup ys => if okL 12 xs && okL 12 ys then ltL xs ys else none
  | x, y => ltA x y
/-- all are ints; texts; tuples that begin with ints; with texts -/
def hdOf : D → Option D
  | .tup (d :: _) => some d
  | _ => none
def isInt : D → Bool
  | .int _ => true
  | _ => false
def isStr : D → Bool
  | .str _ => true
  | _ => false
def ofO (f : D → Bool) : Option D → Bool
  | some d => f d
  | none => false
def srtK (ds : List D) : Bool := ds.all isInt || ds.all isStr || ds.all (fun d => ofO isInt (hdOf d)) || ds.all (fun d => ofO isStr (hdOf d))
def insD (x : D) : List D → List D
  | [] => [x]
  | y :: r => if ltD y x = some true then y :: insD x r else x :: y :: r
def srtL (ds : List D) : List D := ds.foldr insD []
def srtD (ds : List D) : Option (List D) := if srtK ds && ds.all (fun x => ds.all fun y => (ltD x y).isSome) && Nat.ble ds.length 16777216 then some (srtL ds) else none
/-- what sorted is asked of -/
def srtW (st : Loc) (x : W) : Option (List D) := match x with
  | .r n => match st[n]? with
    | some (.dct _ ks) => some (ks.map (·.1))
    | _ => match pk st x with
      | some (.lst ds) => some ds
      | _ => none
  | .d (.lst ds) => some ds
  | _ => none
def kysW (st : Loc) (x : W) : Option (List D) := match x with
  | .r n => match st[n]? with
    | some (.dct _ ks) => some (ks.map (·.1))
    | _ => none
  | _ => none
/-- what list(..) copies -/
def thwW (st : Loc) : W → Option (List W)
  | .d (.lst ds) => some (ds.map .d)
  | .d (.tup ds) => some (ds.map .d)
  | .r n => match st[n]? with
    | some (.lst ws) => some ws
    | _ => none
  | _ => none
/-- len -/
def lenW (st : Loc) : W → Option Nat
  | .r n => match st[n]? with
    | some (.lst ws) => some ws.length
    | _ => none
  | _ => none
/-! ### the evaluator -/
/-- the calls, the classes, the calls that hand a lambda -/
structure Cf where
  fn : Nat → List W → Loc → Res W
  sub : Nat → Nat → Option Bool
  ask : Nat → Res W → Res W
  /-- the place of a class's field; the def of a class's method; a class's __init__ -/
  fl : Nat → Nat → Option Nat
  mt : Nat → Nat → Option Nat
  ini : Nat → Option Nat
open Classical in
/-- what a call that leaves the store as it is ends with -/
noncomputable def roRes (r : Res W) (l : Loc) : Res W := match r with
  | .ok (.d x) l' => if l <+: l' then .ok (.d x) l else .bad
  | .exc c p l' => if l <+: l' then .exc c p l else .bad
  | _ => .bad
/-- the arguments, then None for those that lack -/
def padN (ws : List W) : Nat → List W
  | 0 => ws
  | d + 1 => ws ++ List.replicate (d + 1) (.d .non)
@[simp] theorem padN_zero (ws : List W) : padN ws 0 = ws := rfl
theorem padN_eq (ws : List W) (d : Nat) : padN ws d = ws ++ List.replicate d (.d .non) := by cases d <;> simp [padN]
noncomputable def fnCall (cf : Nat → List W → Loc → Res W) (ro : Bool) (f : Nat) (ws : List W) (l : Loc) : Res W := match ro with
  | true => roRes (cf f ws l) l
  | false => cf f ws l
def lastV : List (Tx × Tx) → Tx → Option Tx → Option Tx
  | [], _, o => o
  | (k, v) :: r, z, o => lastV r z (if k = z then some v else o)
def dlW (kvs : List (Tx × Tx)) (y : W) : W → Option W
  | .d (.str z) => some (match lastV kvs z none with
    | some t => .d (.str t)
    | none => y)
  | _ => none
def replW (y z : Tx) : W → Option W
  | .d (.str s) => if y ≠ [] ∧ y ≠ z ∧ s.length + (s.length + 1) * z.length ≤ 16777216 then some (.d (.str (PySem.StrLaws.replL y z s))) else none
  | _ => none
def tabV (kvs : List (Tx × D)) (z : Tx) : Option D := (kvs.find? fun q => q.1 == z).map (·.2)
def tgetW (kvs : List (Tx × D)) (y : W) : W → Option W
  | .d (.str z) => some (match tabV kvs z with
    | some d => .d d
    | none => y)
  | _ => none
def tixW (kvs : List (Tx × D)) : W → Option W
  | .d (.str z) => (tabV kvs z).map .d
  | _ => none
def isxW (sub : Nat → Nat → Option Bool) (c : Nat) : W → Option W
  | .d (.ins c' _) => (sub c' c).map fun b => .d (.bl b)
  | _ => none
def fldW (fl : Nat → Nat → Option Nat) (f : Nat) (st : Loc) : W → Option W
  | .r n => match st[n]? with
    | some (.ins c ws) => (fl c f).bind fun i => ws[i]?
    | _ => none
  | _ => none
def methW (mt : Nat → Nat → Option Nat) (m : Nat) (st : Loc) : W → Option Nat
  | .r n => match st[n]? with
    | some (.ins c _) => mt c m
    | _ => none
  | _ => none
def setFW (fl : Nat → Nat → Option Nat) (f : Nat) (l : Loc) (x w : W) : Option Loc := match x with
  | .r n => match l[n]? with
    | some (.ins c ws) => (fl c f).bind fun i => if i < ws.length then some (l.set n (.ins c (ws.set i w))) else if i = ws.length then some (l.set n (.ins c (ws ++ [w]))) else none
    | _ => none
  | _ => none
section
variable (cf : Cf)
open Classical in
noncomputable def lcGo (st : Loc → Prop) (ec : Env → Loc → Res Bool) (ee : Env → Loc → Res W) (tg : Tg) : List Itm → Env → Loc → Res (List W)
  | [], _, l => if st l then .ok [] l else .bad
  | d :: ds, ρ, l => if st l then (ret (asgI l tg d ρ) l).bind fun ρ1 l => (ec ρ1 l).bind fun b l => (match b with
    | true => (ee ρ1 l).bind fun w l => (lcGo st ec ee tg ds ρ l).bind fun ws l => .ok (w :: ws) l
    | false => lcGo st ec ee tg ds ρ l) else .bad
def noExc {α : Type} (r : Res α) : Res α := match r with
  | .exc _ _ _ => .bad
  | r => r
mutual
noncomputable def evE : Ex → Env → Loc → Res W
  | .c x, _, l => .ok (.d x) l
  | .v i, ρ, l => match ρ[i]? with
    | some (some w) => .ok w l
    | _ => .bad
  | .g _ d, _, l => .ok (.d d) l
  | .op o a b, ρ, l => (evE a ρ l).bind fun x l => (evE b ρ l).bind fun y l => ret (op2W l o x y) l
  | .chain o1 o2 a b c, ρ, l => (evE a ρ l).bind fun x l => (evE b ρ l).bind fun y l => (ret (op2W l o1 x y) l).bind fun t l => match t with
    | .d (.bl true) => (evE c ρ l).bind fun z l => ret (op2W l o2 y z) l
    | .d (.bl false) => .ok (.d (.bl false)) l
    | _ => .bad
  | .and a b, ρ, l => (evE a ρ l).bind fun x l => (ret (trW l x) l).bind fun t l => match t with
    | true => evE b ρ l
    | false => .ok x l
  | .or a b, ρ, l => (evE a ρ l).bind fun x l => (ret (trW l x) l).bind fun t l => match t with
    | true => .ok x l
    | false => evE b ρ l
  | .not a, ρ, l => (evE a ρ l).bind fun x l => (ret (trW l x) l).bind fun t l => .ok (.d (.bl (!t))) l
  | .neg a, ρ, l => (evE a ρ l).bind fun x l => match x with
    | .d (.int i) => .ok (.d (.int (-i))) l
    | _ => .bad
  | .ite c a b, ρ, l => (evT c ρ l).bind fun t l => match t with
    | true => evE a ρ l
    | false => evE b ρ l
  | .tup es, ρ, l => (evL es ρ l).bind fun ws l => mkTup ws l
  | .lst m es, ρ, l => (evL es ρ l).bind fun ws l => mkLst m ws l
  | .idx a i, ρ, l => (evE a ρ l).bind fun x l => (evE i ρ l).bind fun y l => ret (idxW l x y) l
  | .sl a lo hi, ρ, l => (evE a ρ l).bind fun x l => (evO lo ρ l).bind fun p l => (evO hi ρ l).bind fun q l =>
      ret ((pk l x).bind fun d => (slD d p q).map .d) l
  | .call ro f es d, ρ, l => (evL es ρ l).bind fun ws l => fnCall cf.fn ro f (padN ws d) l
  | .bi b a, ρ, l => (evE a ρ l).bind fun x l => ret ((pk l x).bind fun d => (biD b d).map .d) l
  | .no, _, _ => .bad
  | .len a, ρ, l => (evE a ρ l).bind fun x l => ret ((lenW l x).map fun n => .d (.int (n : Int))) l
  | .sm m o es, ρ, l => (evE o ρ l).bind fun x l => match rcv l m x with
    | true => (evL es ρ l).bind fun ws l => smW m x ws l
    | false => .bad
  | .lc m tg k ie cs e own, ρ, l => (evL ie ρ l).bind fun ws l => (ret (itms l k ws) l).bind fun ds l =>
      (noExc (lcGo (stays (walked k ws) l) (evC cs) (evE e) tg ds (wipeE ρ (own.map (·.2))) l)).bind fun ws l => mkLst m ws l
  | .frz e, ρ, l => (evE e ρ l).bind fun x l => frzW x l
  | .dnew, _, l => .ok (.r l.length) (l ++ [.dct 0 []])
  | .dnewF, _, l => .ok (.d (.dct [])) l
  | .isx c a, ρ, l => (evE a ρ l).bind fun x l => ret (isxW cf.sub c x) l
  | .tget _ kvs a, ρ, l => (evE a ρ l).bind fun x l => ret (tgetW kvs (.d .non) x) l
  | .tget2 _ kvs a b, ρ, l => (evE a ρ l).bind fun x l => (evE b ρ l).bind fun y l => ret (tgetW kvs y x) l
  | .dlget kvs a b, ρ, l => (evE a ρ l).bind fun x l => (evE b ρ l).bind fun y l => ret (dlW kvs y x) l
  | .dlget1 kvs a, ρ, l => (evE a ρ l).bind fun x l => ret (dlW kvs (.d .non) x) l
  | .repl y z o, ρ, l => (evE o ρ l).bind fun x l => ret (replW y z x) l
  | .tix _ kvs a, ρ, l => (evE a ρ l).bind fun x l => ret (tixW kvs x) l
  | .act _, _, _ => .bad
  | .ask g body, ρ, l => cf.ask g (evE body ρ l)
  | .fld f o, ρ, l => (evE o ρ l).bind fun x l => ret (fldW cf.fl f l x) l
  | .meth ro m o es d, ρ, l => (evE o ρ l).bind fun x l => match methW cf.mt m l x with
    | some g => (evL es ρ l).bind fun ws l => fnCall cf.fn ro g (padN (x :: ws) d) l
    | none => .bad
  | .make c es, ρ, l => (evL es ρ l).bind fun ws l => match cf.ini c with
    | some g => (cf.fn g (.r l.length :: ws) (l ++ [.ins c []])).bind fun v l' => match v with
      | .d .non => .ok (.r l.length) l'
      | _ => .bad
    | none => .bad
  | .thw e, ρ, l => (evE e ρ l).bind fun x l => match thwW l x with
    | some ws => mkLst true ws l
    | none => .bad
  | .max a b, ρ, l => (evE a ρ l).bind fun x l => (evE b ρ l).bind fun y l => match x, y with
    | .d (.int i), .d (.int j) => .ok (.d (.int (if j > i then j else i))) l
    | _, _ => .bad
  | .srt e, ρ, l => (evE e ρ l).bind fun x l => ret ((srtW l x).bind fun ds => (srtD ds).map fun ds => .d (.lst ds)) l
  | .kys e, ρ, l => (evE e ρ l).bind fun x l => ret ((kysW l x).map fun ds => .d (.lst ds)) l
/-- a test -/
noncomputable def evT : Te → Env → Loc → Res Bool
  | .e a, ρ, l => (evE a ρ l).bind fun x l => ret (trW l x) l
  | .and a b, ρ, l => (evT a ρ l).bind fun t l => match t with
    | true => evT b ρ l
    | false => .ok false l
  | .or a b, ρ, l => (evT a ρ l).bind fun t l => match t with
    | true => .ok true l
    | false => evT b ρ l
  | .not a, ρ, l => (evT a ρ l).bind fun t l => .ok (!t) l
noncomputable def evL : Exs → Env → Loc → Res (List W)
  | .nil, _, l => .ok [] l
  | .cons e es, ρ, l => (evE e ρ l).bind fun w l => (evL es ρ l).bind fun ws l => .ok (w :: ws) l
noncomputable def evC : Tes → Env → Loc → Res Bool
  | .nil, _, l => .ok true l
  | .cons e es, ρ, l => (evT e ρ l).bind fun t l => match t with
    | true => evC es ρ l
    | false => .ok false l
noncomputable def evO : Eo → Env → Loc → Res (Option Int)
  | .no, _, l => .ok none l
  | .so e, ρ, l => (evE e ρ l).bind fun w l => match w with
    | .d (.int i) => .ok (some i) l
    | _ => .bad
end
/-! statements -/
def Res.out {α : Type} (r : Res α) (ρ : Env) (f : α → Loc → Out) : Out := match r with
  | .ok a l => f a l
  | .exc c p l => .exc c p ρ l
  | .bad => .bad
@[simp] theorem Res.out_ok {α : Type} (a : α) (l : Loc) (ρ : Env) (f : α → Loc → Out) : (Res.ok a l).out ρ f = f a l := rfl
@[simp] theorem Res.out_exc {α : Type} (c : Nat) (p : D) (l : Loc) (ρ : Env) (f : α → Loc → Out) : (Res.exc c p l : Res α).out ρ f = .exc c p ρ l := rfl
@[simp] theorem Res.out_bad {α : Type} (ρ : Env) (f : α → Loc → Out) : (Res.bad : Res α).out ρ f = .bad := rfl
def Out.thn (o : Out) (f : Env → Loc → Out) : Out := match o with
  | .nx ρ l => f ρ l
  | o => o
@[simp] theorem Out.thn_nx (ρ : Env) (l : Loc) (f : Env → Loc → Out) : (Out.nx ρ l).thn f = f ρ l := rfl
@[simp] theorem Out.thn_rt (w : W) (l : Loc) (f : Env → Loc → Out) : (Out.rt w l).thn f = .rt w l := rfl
@[simp] theorem Out.thn_bk (ρ : Env) (l : Loc) (f : Env → Loc → Out) : (Out.bk ρ l).thn f = .bk ρ l := rfl
@[simp] theorem Out.thn_ct (ρ : Env) (l : Loc) (f : Env → Loc → Out) : (Out.ct ρ l).thn f = .ct ρ l := rfl
@[simp] theorem Out.thn_exc (c : Nat) (p : D) (ρ : Env) (l : Loc) (f : Env → Loc → Out) : (Out.exc c p ρ l).thn f = .exc c p ρ l := rfl
@[simp] theorem Out.thn_bad (f : Env → Loc → Out) : Out.bad.thn f = .bad := rfl
open Classical in
noncomputable def forGo (st : Loc → Prop) (eb : Env → Loc → Out) (tg : Tg) : List Itm → Env → Loc → Out
  | [], ρ, l => if st l then .nx ρ l else .bad
  | d :: ds, ρ, l => if st l then (match asgI l tg d ρ with
    | none => .bad
    | some ρ1 => match eb ρ1 l with
      | .nx ρ2 l => forGo st eb tg ds ρ2 l
      | .ct ρ2 l => forGo st eb tg ds ρ2 l
      | .bk ρ2 l => .nx ρ2 l
      | o => o) else .bad
def whGo (et : Env → Loc → Res Bool) (eb : Env → Loc → Out) : Nat → Env → Loc → Out
  | 0, _, _ => .bad
  | n + 1, ρ, l => (et ρ l).out ρ fun t l => match t with
    | false => .nx ρ l
    | true => match eb ρ l with
      | .nx ρ2 l => whGo et eb n ρ2 l
      | .ct ρ2 l => whGo et eb n ρ2 l
      | .bk ρ2 l => .nx ρ2 l
      | o => o
def retO (o : Option Loc) (ρ : Env) : Out := match o with
  | some l => .nx ρ l
  | none => .bad
/-- a suite lets nothing out -/
def noExO (o : Out) : Out := match o with
  | .exc _ _ _ _ => .bad
  | o => o
/-- what is known behind a suite that bound its exception to slot i: what was there, and what holds no exception -/
noncomputable def outO (a b : Option W) : Option W := open Classical in if a = b then a else match b with
  | some w => if noInsW w then some w else none
  | none => none
noncomputable def outE (ρ ρ2 : Env) (i : Nat) : Env := (List.zipWith outO ρ ρ2).set i none
/-- the suite of `as` changes no object -/
noncomputable def outS (i : Nat) (ρ : Env) (l : Loc) (o : Out) : Out := open Classical in match o with
  | .nx ρ2 l2 => if l2 = l ∧ ρ2.length = ρ.length then .nx (outE ρ ρ2 i) l else .bad
  | .rt w l2 => if l2 = l ∧ noInsW w = true then .rt w l else .bad
  | _ => .bad
/-- what an except clause does: sub tells of two classes whether the first is of the second -/
noncomputable def tryO (sub : Nat → Nat → Option Bool) (c : Nat) (e : Option Nat) (es : Env → Loc → Out) : Out → Out
  | .exc c' p ρ l => match sub c' c with
    | some true => match e with
      | none => noExO (es ρ l)
      | some i => outS i ρ l (es (ρ.set i (some (.d (.ins c' [p])))) l)
    | some false => .exc c' p ρ l
    | none => .bad
  | o => o
section
mutual
noncomputable def evS : St → Env → Loc → Out
  | .asg tg e, ρ, l => (evE cf e ρ l).out ρ fun w l => match asgT l tg w ρ with
    | some ρ1 => .nx ρ1 l
    | none => .bad
  | .par i j a b, ρ, l => (evE cf a ρ l).out ρ fun w l => (evE cf b ρ l).out ρ fun u l => .nx ((ρ.set i (some w)).set j (some u)) l
  | .setF f o e, ρ, l => (evE cf e ρ l).out ρ fun w l => (evE cf o ρ l).out ρ fun x l => retO (setFW cf.fl f l x w) ρ
  | .setI o i e, ρ, l => (evE cf e ρ l).out ρ fun w l => (evE cf o ρ l).out ρ fun x l => (evE cf i ρ l).out ρ fun y l => retO (setIW l x y w) ρ
  | .ex e, ρ, l => (evE cf e ρ l).out ρ fun _ l => .nx ρ l
  | .ret e, ρ, l => (evE cf e ρ l).out ρ fun w l => .rt w l
  | .ifs c a b, ρ, l => (evT cf c ρ l).out ρ fun t l => match t with
    | true => evSs a ρ l
    | false => evSs b ρ l
  | .for tg k ie body, ρ, l => (evL cf ie ρ l).out ρ fun ws l => match itms l k ws with
    | some ds => forGo (stays (walked k ws) l) (evSs body) tg ds ρ l
    | none => .bad
  | .whl n c body, ρ, l => whGo (evT cf c) (evSs body) n ρ l
  | .raise c _, ρ, l => .exc c .non ρ l
  | .try c e body suite, ρ, l => tryO cf.sub c e (evSs suite) (evSs body ρ l)
  | .pass, ρ, l => .nx ρ l
  | .no, _, _ => .bad
noncomputable def evSs : Sts → Env → Loc → Out
  | .no, _, _ => .bad
  | .nil, ρ, l => .nx ρ l
  | .cons s r, ρ, l => (evS s ρ l).thn fun ρ l => evSs r ρ l
end
end
end
/-! ### the calls -/
def startE (n : Nat) (ws : List W) : Env := ws.map some ++ List.replicate (n - ws.length) none
def Out.res : Out → Res W
  | .nx _ l => .ok (.d .non) l
  | .rt w l => .ok w l
  | .exc c p _ l => .exc c p l
  | _ => .bad
mutual
/-- a constant, or a tuple of such -/
def conE : Ex → Option D
  | .c d => some d
  | .tup es => (conL es).bind fun ds => if ds.length ≤ 16777216 then some (.tup ds) else none
  | _ => none
def conL : Exs → Option (List D)
  | .nil => some []
  | .cons e es => (conE e).bind fun d => (conL es).map (d :: ·)
end
/-- a def that calls its parameter: x = init; try: x = (told, a()) except C as e: suite; return x -/
structure Asker where
  x : Nat
  e : Nat
  c : Nat
  init : Ex
  told : D
  suite : Sts
def askOf (df : Def) : Option Asker := match df.body with
  | .cons (.asg (.n x) init) (.cons (.try c (some e) (.cons (.asg (.n x2) (.tup (.cons (.c t) (.cons (.act 0) .nil)))) .nil) suite) (.cons (.ret (.v x3)) .nil)) =>
    if x2 = x ∧ x3 = x ∧ x ≠ 0 ∧ e ≠ 0 ∧ e ≠ x ∧ df.np = 1 ∧ x < df.nl ∧ e < df.nl ∧ noIns t = true then some ⟨x, e, c, init, t, suite⟩ else none
  | _ => none
def slotV (ρ : Env) (i : Nat) : Option W := match ρ[i]? with
  | some (some w) => some w
  | _ => none
noncomputable def askR (cf : Cf) (df : Def) (r : Res W) : Res W := match askOf df with
  | none => .bad
  | some A => match r with
    | .ok (.d x) l => if noIns x = true then .ok (.d (.tup [A.told, x])) l else .bad
    | .exc c' p l => match cf.sub c' A.c with
      | some true => (match outS A.e (List.replicate df.nl none) l (evSs cf A.suite ((List.replicate df.nl none).set A.e (some (.d (.ins c' [p])))) l) with
        | .nx ρ l => (ret (slotV ρ A.x) l).bind fun w l => match w with
          | .d x => .ok (.d x) l
          | .r _ => .bad
        | _ => .bad)
      | _ => .bad
    | _ => .bad
/-- the program's tables -/
structure Pt where
  dfs : List Def
  sub : Nat → Nat → Option Bool
  /-- the place of a class's field; the def of a class's method; a class's __init__ -/
  fl : Nat → Nat → Option Nat
  mt : Nat → Nat → Option Nat
  ini : Nat → Option Nat
section
variable (P : Pt)
noncomputable def ask (fn : Nat → List W → Loc → Res W) (g : Nat) (r : Res W) : Res W := match P.dfs[g]? with
  | some df => askR ⟨fn, P.sub, fun _ _ => .bad, P.fl, P.mt, P.ini⟩ df r
  | none => .bad
/-- the f-th def, at most k calls deep -/
noncomputable def call : Nat → Nat → List W → Loc → Res W
  | 0, _, _, _ => .bad
  | k + 1, f, ws, l => match P.dfs[f]? with
    | some df => if ws.length = df.np then (evSs ⟨call k, P.sub, ask P (call k), P.fl, P.mt, P.ini⟩ df.body (startE df.nl ws) l).res else .bad
    | none => .bad
noncomputable abbrev cfK (k : Nat) : Cf := ⟨call P k, P.sub, ask P (call P k), P.fl, P.mt, P.ini⟩
end
end Vx

set_option maxHeartbeats 4000000
/-! ### data and objects over the abstract heap -/
namespace Vx
open PySem PySem.Spec PyProof.Rows L2

abbrev sx (s : Tx) : Str := ⟨s.toArray⟩
theorem tl_sx (s : Tx) : TL.tl (sx s) = s := rfl
theorem len_sx (s : Tx) : (sx s).length = s.length := by simp [sx, Str.length]

/-- the tables of code objects that lambdas are kept in -/
class Tbs where
  T : List (Addr × Str)
  P : Program
  w : World
  /-- own classes: where they stand, the names of their fields -/
  cl : Nat → Addr
  fn : Nat → List Str
/-- the frozen part of the heap; the objects that dicts were -/
structure Gh where
  hp : Hp
  ob : Addr → Nat → Option PySem.Obj
instance : CoeFun Gh fun _ => Addr → Option HO := ⟨Gh.hp⟩
def upg (F : Gh) (a : Addr) (o : HO) : Gh := ⟨upd F.hp a o, F.ob⟩
theorem upg_same {F : Gh} {a : Addr} {o : HO} : upg F a o a = some o := upd_same
theorem upg_ne {F : Gh} {a b : Addr} {o : HO} (h : b ≠ a) : upg F a o b = F b := upd_ne h
/-- a dict's next object -/
def obg (F : Gh) (a : Addr) (n : Nat) (o : PySem.Obj) : Gh := ⟨F.hp, fun b m => if b = a ∧ m = n then some o else F.ob b m⟩
theorem obg_same {F : Gh} {a : Addr} {n : Nat} {o : PySem.Obj} : (obg F a n o).ob a n = some o := if_pos ⟨rfl, rfl⟩
theorem obg_ne {F : Gh} {a b : Addr} {n m : Nat} {o : PySem.Obj} (h : ¬ (b = a ∧ m = n)) : (obg F a n o).ob b m = F.ob b m := if_neg h
/-- what stands for an exception -/
class Spv where
  P : Addr → Nat → List D → Prop
/-- none does -/
@[reducible] def noSpv : Spv := ⟨fun _ _ _ => False⟩
def isTbl : HO → Bool
  | .tbl _ => true
  | _ => false
theorem isTbl_ne {o : HO} (h : isTbl o = false) : ∀ ps, o ≠ .tbl ps := fun ps e => by subst e; cases h
/-- neither a table nor a code object -/
def isPl : HO → Bool
  | .tbl _ => false
  | .ext _ => false
  | _ => true
variable [tb : Tbs]
section
variable [sp : Spv]
mutual
/-- v is the data, in the frozen part F of the heap -/
def Rep (F : Gh) : V → D → Prop
  | v, .non => v = .non
  | v, .bl b => v = .bl b
  | v, .int i => v = .int i
  | v, .str s => v = .str (sx s)
  | v, .tup ds => ∃ a vs, v = .ref a ∧ F a = some (.tup vs) ∧ RepL F vs ds
  | v, .lst ds => ∃ a vs, v = .ref a ∧ F a = some (.lst vs) ∧ RepL F vs ds
  | v, .dct ds => ds = [] ∧ ∃ a, v = .ref a ∧ F a = some (.dK [])
  | v, .ins c ds => ∃ a, v = .ref a ∧ Spv.P a c ds
def RepL (F : Gh) : List V → List D → Prop
  | vs, [] => vs = []
  | vs, d :: ds => ∃ v r, vs = v :: r ∧ Rep F v d ∧ RepL F r ds
end
def Rp (F : Gh) (ms : List Addr) (v : V) : W → Prop
  | .d x => Rep F v x
  | .r n => ∃ a, ms[n]? = some a ∧ v = .ref a
def RpL (F : Gh) (ms : List Addr) : List V → List W → Prop
  | [], [] => True
  | v :: vs, w :: ws => Rp F ms v w ∧ RpL F ms vs ws
  | _, _ => False
/-! dicts -/
def atK : D → Option L2.Key
  | .int i => some (.inl i)
  | .str s => some (.inr (sx s))
  | _ => none
def tpK : D → List (Option L2.Key)
  | .tup ds => ds.map atK
  | _ => []
/-- a dict's object, its keys None, ints, texts -/
def DcA (P : Program) (w : World) (o : PySem.Obj) (vs : List (Option L2.Key × Value)) : Prop :=
  o.ExactDict ∧ ∃ es ep, o.data = .dict es ep ∧ KeysOf (noneKind P w) es ∧ Pairs (noneKind P w) es.toList vs ∧ (vs.map (·.1)).Nodup
/-- .. tuples of these -/
def DcT (P : Program) (w : World) (o : PySem.Obj) (xs : List (List (Option L2.Key) × Addr × Value)) : Prop :=
  o.ExactDict ∧ ∃ es ep, o.data = .dict es ep ∧ es.toList = xs.map (entryOfKey (tupleKind (noneKind P w))) ∧ (xs.map (·.1)).Nodup
def KvA (F : Gh) (ms : List Addr) : List (Option L2.Key × Value) → List (D × W) → Prop
  | [], [] => True
  | p :: ps, q :: qs => (isAt q.1 = true ∧ p.1 = atK q.1 ∧ ∃ v, RelV v p.2 ∧ Rp F ms v q.2) ∧ KvA F ms ps qs
  | _, _ => False
def KvT (F : Gh) (ms : List Addr) : List (List (Option L2.Key) × Addr × Value) → List (D × W) → Prop
  | [], [] => True
  | p :: ps, q :: qs => (isTp q.1 = true ∧ isKy q.1 = true ∧ p.1 = tpK q.1 ∧ Rep F (.ref p.2.1) q.1 ∧ ∃ v, RelV v p.2.2 ∧ Rp F ms v q.2) ∧ KvT F ms ps qs
  | _, _ => False
/-- what of a dict the store tells -/
def DcO (F : Gh) (ms : List Addr) (o : PySem.Obj) (ks : List (D × W)) : Prop := (∃ vs, DcA Tbs.P Tbs.w o vs ∧ KvA F ms vs ks) ∨ ∃ xs, DcT Tbs.P Tbs.w o xs ∧ KvT F ms xs ks
/-- this very object -/
abbrev obE (a : Addr) (o : PySem.Obj) : HO := .ext fun h => h.get? a = some o
def ObR (F : Gh) (ms : List Addr) (H : Hp) (a : Addr) : Obj → Prop
  | .lst ws => F a = none ∧ ∃ vs, H a = some (.lst vs) ∧ RpL F ms vs ws
  | .tup ws => F a = none ∧ ∃ vs, H a = some (.tup vs) ∧ RpL F ms vs ws
  | .dct ver ks => F a = none ∧ ∃ o, (F.ob a ver = some o ∧ (∀ m, ver < m → F.ob a m = none) ∧ (a == sysModules) = false ∧ ks.length ≤ 16777216 ∧ ∃ h : Heap, h.get? a = some o) ∧ H a = some (obE a o) ∧ DcO F ms o ks
  | .ins c ws => F a = none ∧ ∃ dx vs, H a = some (.ins (Tbs.cl c) dx ((Tbs.fn c).zip vs)) ∧ ws.length ≤ (Tbs.fn c).length ∧ RpL F ms vs ws
  | .dead => ∃ o, H a = some o ∧ isPl o = true
structure SRel (F : Gh) (ms : List Addr) (st : Loc) (H : Hp) : Prop where
  len : ms.length = st.length
  nd : ms.Nodup
  le : ∀ a o, F a = some o → Rd H a o
  at_ : ∀ (n : Nat) (a : Addr) (o : Obj), ms[n]? = some a → st[n]? = some o → ObR F ms H a o
  nt : ∀ a o, F a = some o → isTbl o = false
  tabs : LamX.Tabs Tbs.T H
  obh : ∀ a n o, F.ob a n = some o → ∃ u, H a = some u ∧ isTbl u = false
structure EnvR (F : Gh) (ms : List Addr) (ρ : Env) (σ : L2.St) : Prop where
  len : ρ.length = σ.length
  at_ : ∀ (i : Nat) (w : W), ρ[i]? = some (some w) → ∃ v, σ[i]? = some (some v) ∧ Rp F ms v w
end
/-- nothing stands there, or a table -/
def Fsh (H : Hp) (a : Addr) : Prop := ∀ o, H a = some o → isTbl o = true
theorem Fsh.of {H : Hp} {a : Addr} (h : H a = none) : Fsh H a := fun o e => by rw [h] at e; cases e
theorem Fsh.no {H : Hp} {a : Addr} {o : HO} (f : Fsh H a) (h : H a = some o) (i : isTbl o = false) : False := by
  rw [f o h] at i; cases i
structure Stp (F : Gh) (ms : List Addr) (H : Hp) (F' : Gh) (ms' : List Addr) (H' : Hp) : Prop where
  sub : ∀ a o, F a = some o → F' a = some o
  pre : ms <+: ms'
  keep : ∀ a o, H a = some o → a ∉ ms → isTbl o = false → H' a = some o
  new : ∀ a, a ∈ ms' → a ∉ ms → Fsh H a
  newF : ∀ a o, F' a = some o → F a = some o ∨ Fsh H a ∨ a ∈ ms'
  obs : ∀ a n o, F.ob a n = some o → F'.ob a n = some o
section
variable {F F1 F2 : Gh} {ms ms1 ms2 : List Addr} {H H1 H2 : Hp} {v : V} {vs : List V}
theorem Stp.refl : Stp F ms H F ms H := ⟨fun _ _ h => h, List.prefix_refl _, fun _ _ h _ _ => h, fun _ h n => absurd h n, fun _ _ h => .inl h, fun _ _ _ h => h⟩
theorem Stp.trans (a : Stp F ms H F1 ms1 H1) (b : Stp F1 ms1 H1 F2 ms2 H2) : Stp F ms H F2 ms2 H2 where
  sub := fun x o h => b.sub x o (a.sub x o h)
  pre := a.pre.trans b.pre
  keep := fun x o h n i => b.keep x o (a.keep x o h n i) (fun hm => (a.new x hm n).no h i) i
  new := fun x h n o e => by
    cases i : isTbl o with
    | true => rfl
    | false =>
      exfalso
      by_cases hx : x ∈ ms1
      · exact (a.new x hx n).no e i
      · exact (b.new x h hx).no (a.keep x o e n i) i
  newF := fun x o h => by
    have sub : ∀ y, y ∈ ms1 → y ∈ ms2 := fun y hy => b.pre.subset hy
    rcases b.newF x o h with h1 | h1 | h1
    · rcases a.newF x o h1 with h2 | h2 | h2
      · exact .inl h2
      · exact .inr (.inl h2)
      · exact .inr (.inr (sub x h2))
    · by_cases hm : x ∈ ms
      · exact .inr (.inr (sub x (a.pre.subset hm)))
      · refine .inr (.inl fun u q => ?_)
        cases i : isTbl u with
        | true => rfl
        | false => exact (h1.no (a.keep x u q hm i) i).elim
    · exact .inr (.inr h1)
  obs := fun x n o h => b.obs x n o (a.obs x n o h)
theorem pre_get {ms ms1 : List Addr} (h : ms <+: ms1) {n : Nat} {a : Addr} (e : ms[n]? = some a) : ms1[n]? = some a := by
  obtain ⟨r, rfl⟩ := h
  rw [List.getElem?_append_left (List.getElem?_eq_some_iff.mp e).1]
  exact e
variable [sp : Spv]
mutual
theorem Rep.mono (s : ∀ a o, F a = some o → F1 a = some o) : ∀ (d : D) (v : V), Rep F v d → Rep F1 v d
  | .non, _, h => h
  | .bl _, _, h => h
  | .int _, _, h => h
  | .str _, _, h => h
  | .tup ds, v, h => by
    unfold Rep at h ⊢
    obtain ⟨a, vs, e, ha, hl⟩ := h
    exact ⟨a, vs, e, s _ _ ha, RepL.mono s ds vs hl⟩
  | .lst ds, v, h => by
    unfold Rep at h ⊢
    obtain ⟨a, vs, e, ha, hl⟩ := h
    exact ⟨a, vs, e, s _ _ ha, RepL.mono s ds vs hl⟩
  | .dct ds, v, h => by
    unfold Rep at h ⊢
    obtain ⟨e, a, e1, ha⟩ := h
    exact ⟨e, a, e1, s _ _ ha⟩
  | .ins _ _, _, h => by unfold Rep at h ⊢; exact h
theorem RepL.mono (s : ∀ a o, F a = some o → F1 a = some o) : ∀ (ds : List D) (vs : List V), RepL F vs ds → RepL F1 vs ds
  | [], _, h => by unfold RepL at h ⊢; exact h
  | d :: ds, vs, h => by
    unfold RepL at h ⊢
    obtain ⟨v, r, e, h1, h2⟩ := h
    exact ⟨v, r, e, Rep.mono s d v h1, RepL.mono s ds r h2⟩
end
theorem Rp.mono (s : ∀ a o, F a = some o → F1 a = some o) (p : ms <+: ms1) : ∀ {w : W}, Rp F ms v w → Rp F1 ms1 v w
  | .d x, h => Rep.mono s x v h
  | .r n, ⟨a, e, h⟩ => ⟨a, pre_get p e, h⟩
theorem RpL.mono (s : ∀ a o, F a = some o → F1 a = some o) (p : ms <+: ms1) : ∀ {vs : List V} {ws : List W}, RpL F ms vs ws → RpL F1 ms1 vs ws
  | [], [], _ => trivial
  | _ :: _, _ :: _, ⟨h, t⟩ => ⟨Rp.mono s p h, RpL.mono s p t⟩
  | [], _ :: _, h => h.elim
  | _ :: _, [], h => h.elim
theorem Rp.stp (t : Stp F ms H F1 ms1 H1) {w : W} (h : Rp F ms v w) : Rp F1 ms1 v w := h.mono t.sub t.pre
theorem RpL.stp (t : Stp F ms H F1 ms1 H1) {ws : List W} (h : RpL F ms vs ws) : RpL F1 ms1 vs ws := h.mono t.sub t.pre
theorem EnvR.stp {ρ : Env} {σ : L2.St} (t : Stp F ms H F1 ms1 H1) (h : EnvR F ms ρ σ) : EnvR F1 ms1 ρ σ :=
  ⟨h.len, fun i w e => by obtain ⟨v, a, b⟩ := h.at_ i w e; exact ⟨v, a, b.stp t⟩⟩
theorem RpL.len : ∀ {vs : List V} {ws : List W}, RpL F ms vs ws → vs.length = ws.length
  | [], [], _ => rfl
  | _ :: _, _ :: _, ⟨_, t⟩ => congrArg Nat.succ (RpL.len t)
  | [], _ :: _, h => h.elim
  | _ :: _, [], h => h.elim
theorem RepL.len : ∀ {ds : List D} {vs : List V}, RepL F vs ds → vs.length = ds.length
  | [], _, h => by unfold RepL at h; subst h; rfl
  | d :: ds, _, h => by
    unfold RepL at h
    obtain ⟨v, r, rfl, _, h2⟩ := h
    exact congrArg Nat.succ (RepL.len h2)
theorem RepL.nil : RepL F [] [] := by unfold RepL; rfl
theorem RepL.cons {d : D} {ds : List D} (h : Rep F v d) (t : RepL F vs ds) : RepL F (v :: vs) (d :: ds) := by unfold RepL; exact ⟨v, vs, rfl, h, t⟩
theorem RepL.append : ∀ {ds es : List D} {vs us : List V}, RepL F vs ds → RepL F us es → RepL F (vs ++ us) (ds ++ es)
  | [], _, _, _, h, t => by unfold RepL at h; subst h; exact t
  | d :: ds, _, _, _, h, t => by
    unfold RepL at h
    obtain ⟨v, r, rfl, h1, h2⟩ := h
    exact RepL.cons h1 (RepL.append h2 t)
theorem RepL.get : ∀ {ds : List D} {vs : List V} {i : Nat} {d : D}, RepL F vs ds → ds[i]? = some d → ∃ v, vs[i]? = some v ∧ Rep F v d
  | [], _, _, _, _, e => by simp at e
  | d :: ds, _, i, _, h, e => by
    unfold RepL at h
    obtain ⟨v, r, rfl, h1, h2⟩ := h
    cases i with
    | zero => simp at e; subst e; exact ⟨v, rfl, h1⟩
    | succ i =>
      obtain ⟨u, a, b⟩ := RepL.get (i := i) h2 (by simpa using e)
      exact ⟨u, by simpa using a, b⟩
theorem RpL.get : ∀ {ws : List W} {vs : List V} {i : Nat} {w : W}, RpL F ms vs ws → ws[i]? = some w → ∃ v, vs[i]? = some v ∧ Rp F ms v w
  | [], [], _, _, _, e => by simp at e
  | w :: ws, v :: vs, 0, _, ⟨h, _⟩, e => by simp at e; subst e; exact ⟨v, rfl, h⟩
  | w :: ws, v :: vs, i + 1, _, ⟨_, t⟩, e => by
    obtain ⟨u, a, b⟩ := RpL.get (i := i) t (by simpa using e)
    exact ⟨u, by simpa using a, b⟩
  | [], _ :: _, _, _, h, _ => h.elim
  | _ :: _, [], _, _, h, _ => h.elim
theorem RpL.set : ∀ {ws : List W} {vs : List V} (i : Nat) {v : V} {w : W}, RpL F ms vs ws → Rp F ms v w → RpL F ms (vs.set i v) (ws.set i w)
  | [], [], _, _, _, h, _ => trivial
  | w :: ws, v :: vs, 0, _, _, ⟨_, t⟩, h => ⟨h, t⟩
  | w :: ws, v :: vs, i + 1, _, _, ⟨h1, t⟩, h => ⟨h1, RpL.set i t h⟩
  | [], _ :: _, _, _, _, h, _ => h.elim
  | _ :: _, [], _, _, _, h, _ => h.elim
theorem RpL.append : ∀ {ws us : List W} {vs xs : List V}, RpL F ms vs ws → RpL F ms xs us → RpL F ms (vs ++ xs) (ws ++ us)
  | [], _, [], _, _, t => t
  | w :: ws, _, v :: vs, _, ⟨h, t1⟩, t => ⟨h, RpL.append t1 t⟩
  | [], _, _ :: _, _, h, _ => h.elim
  | _ :: _, _, [], _, h, _ => h.elim
theorem RpL.un : ∀ {ws : List W} {vs : List V} {ds : List D}, RpL F ms vs ws → unW ws = some ds → RepL F vs ds
  | [], [], ds, _, e => by
    have : ds = [] := by simpa [unW] using e.symm
    subst this; exact RepL.nil
  | .d x :: ws, v :: vs, ds, ⟨h, t⟩, e => by
    cases q : unW ws with
    | none => simp [unW, q] at e
    | some es =>
      have : ds = x :: es := by simpa [unW, q] using e.symm
      subst this
      exact RepL.cons h (RpL.un t q)
  | .r n :: ws, _, _, _, e => by simp [unW] at e
  | [], _ :: _, _, h, _ => h.elim
  | _ :: _, [], _, h, _ => h.elim
theorem RpL.of : ∀ {ds : List D} {vs : List V}, RepL F vs ds → RpL F ms vs (ds.map .d)
  | [], _, h => by unfold RepL at h; subst h; trivial
  | d :: ds, _, h => by
    unfold RepL at h
    obtain ⟨v, r, rfl, h1, h2⟩ := h
    exact ⟨h1, RpL.of h2⟩

/-! what is read -/
def Pk (F : Gh) (H : Hp) (v : V) : D → Prop
  | .tup ds => ∃ a vs, v = .ref a ∧ Rd H a (.tup vs) ∧ RepL F vs ds ∧ F a = some (.tup vs)
  | .lst ds => ∃ a vs, v = .ref a ∧ Rd H a (.lst vs) ∧ RepL F vs ds
  | .dct ds => ds = [] ∧ ∃ a, v = .ref a ∧ Rd H a (.dK [])
  | d => Rep F v d
theorem Pk.of {d : D} (le : ∀ a o, F a = some o → Rd H a o) (h : Rep F v d) : Pk F H v d := by
  cases d with
  | tup ds => unfold Rep at h; obtain ⟨a, vs, e, ha, hl⟩ := h; exact ⟨a, vs, e, le _ _ ha, hl, ha⟩
  | lst ds => unfold Rep at h; obtain ⟨a, vs, e, ha, hl⟩ := h; exact ⟨a, vs, e, le _ _ ha, hl⟩
  | dct ds => unfold Rep at h; obtain ⟨e, a, e1, ha⟩ := h; exact ⟨e, a, e1, le _ _ ha⟩
  | _ => exact h
theorem SRel.pk {st : Loc} {w : W} {d : D} (S : SRel F ms st H) (h : Rp F ms v w) (e : pk st w = some d) : Pk F H v d := by
  cases w with
  | d x =>
    cases (show some x = some d from e)
    exact Pk.of S.le h
  | r n =>
    obtain ⟨a, ea, rfl⟩ := h
    unfold pk at e
    cases q : st[n]? with
    | none => simp [q] at e
    | some o =>
      have R := S.at_ n a o ea q
      cases o with
      | lst ws =>
        obtain ⟨_, vs, hH, hl⟩ := R
        cases u : unW ws with
        | none => simp [q, u] at e
        | some ds =>
          have : d = .lst ds := by simpa [q, u] using e.symm
          subst this
          exact ⟨a, vs, rfl, .inl hH, hl.un u⟩
      | _ => simp [q] at e
end
/-! steps of the heap -/
section
variable [sp : Spv] {F : Gh} {ms : List Addr} {st : Loc} {H : Hp} {p : Addr}
theorem SRel.notF (S : SRel F ms st H) (h : H p = none) : F p = none := by
  cases q : F p with
  | none => rfl
  | some o =>
    rcases S.le p o q with e | ⟨ob, e⟩
    · rw [h] at e; cases e
    · rw [h] at e; cases e
theorem SRel.nm (S : SRel F ms st H) (h : H p = none) : p ∉ ms := fun hm => by
  obtain ⟨n, hn⟩ := List.getElem?_of_mem hm
  have hl : n < st.length := by rw [← S.len]; exact (List.getElem?_eq_some_iff.mp hn).1
  have R := S.at_ n p _ hn (List.getElem?_eq_getElem hl)
  cases q : st[n] with
  | lst ws => rw [q] at R; obtain ⟨_, vs, e, _⟩ := R; rw [h] at e; cases e
  | tup ws => rw [q] at R; obtain ⟨_, vs, e, _⟩ := R; rw [h] at e; cases e
  | dct _ _ => rw [q] at R; obtain ⟨_, o, _, e, _⟩ := R; rw [h] at e; cases e
  | ins _ _ => rw [q] at R; obtain ⟨_, dx, vs, e, _⟩ := R; rw [h] at e; cases e
  | dead => rw [q] at R; obtain ⟨o, e, _⟩ := R; rw [h] at e; cases e
/-- live or dead: an address of ms is in the heap, or dead -/
theorem Rd.upd {a : Addr} {o u : HO} (h : Rd H a o) (hp : H p = none) : Rd (upd H p u) a o := by
  rcases h with e | ⟨ob, e⟩
  · exact .inl (by rw [upd_ne (ne_of_none e hp)]; exact e)
  · exact .inr ⟨ob, by rw [upd_ne (ne_of_none e hp)]; exact e⟩
theorem KvA.mono {F1 : Gh} {ms1 : List Addr} (s : ∀ a o, F a = some o → F1 a = some o) (p : ms <+: ms1) : ∀ {kvs : List (Option L2.Key × Value)} {ks : List (D × W)}, KvA F ms kvs ks → KvA F1 ms1 kvs ks
  | [], [], _ => trivial
  | _ :: _, _ :: _, ⟨⟨h1, h2, v, h3, h4⟩, t⟩ => ⟨⟨h1, h2, v, h3, h4.mono s p⟩, KvA.mono s p t⟩
  | [], _ :: _, h => h.elim
  | _ :: _, [], h => h.elim
theorem KvT.mono {F1 : Gh} {ms1 : List Addr} (s : ∀ a o, F a = some o → F1 a = some o) (p : ms <+: ms1) : ∀ {kvs : List (List (Option L2.Key) × Addr × Value)} {ks : List (D × W)}, KvT F ms kvs ks → KvT F1 ms1 kvs ks
  | [], [], _ => trivial
  | _ :: _, _ :: _, ⟨⟨h1, h2, h3, h4, v, h5, h6⟩, t⟩ => ⟨⟨h1, h2, h3, Rep.mono s _ _ h4, v, h5, h6.mono s p⟩, KvT.mono s p t⟩
  | [], _ :: _, h => h.elim
  | _ :: _, [], h => h.elim
theorem DcO.mono {F1 : Gh} {ms1 : List Addr} {o : PySem.Obj} {ks : List (D × W)} (s : ∀ a o, F a = some o → F1 a = some o) (p : ms <+: ms1) : DcO F ms o ks → DcO F1 ms1 o ks
  | .inl ⟨vs, h1, h2⟩ => .inl ⟨vs, h1, h2.mono s p⟩
  | .inr ⟨vs, h1, h2⟩ => .inr ⟨vs, h1, h2.mono s p⟩
theorem ObR.mono {F1 : Gh} {ms1 : List Addr} {H1 : Hp} {a : Addr} (s : ∀ a o, F a = some o → F1 a = some o) (n : F a = none → F1 a = none) (pr : ms <+: ms1) (k : ∀ o, H a = some o → H1 a = some o) (z : F1.ob a = F.ob a := by rfl) : ∀ {o : Obj}, ObR F ms H a o → ObR F1 ms1 H1 a o
  | .lst ws, ⟨h0, vs, h1, h2⟩ => ⟨n h0, vs, k _ h1, h2.mono s pr⟩
  | .tup ws, ⟨h0, vs, h1, h2⟩ => ⟨n h0, vs, k _ h1, h2.mono s pr⟩
  | .dct ver ks, ⟨h0, o, h1, h2, h3⟩ => ⟨n h0, o, by rw [z]; exact h1, k _ h2, h3.mono s pr⟩
  | .ins _ _, ⟨h0, dx, vs, h1, hl, h2⟩ => ⟨n h0, dx, vs, k _ h1, hl, h2.mono s pr⟩
  | .dead, ⟨o, h, i⟩ => ⟨o, k o h, i⟩
theorem tabs_lay {o : HO} (h : LamX.Tabs Tbs.T H) (hp : H p = none) : LamX.Tabs Tbs.T (upd H p o) := h.ext fun b u e => by rw [upd_ne (ne_of_none e hp)]; exact e
theorem tabs_putG {o u : HO} (h : LamX.Tabs Tbs.T H) (hp : H p = some u) (hu : isTbl u = false) (hc : ∀ q, u ≠ LamX.CodeO p q) : LamX.Tabs Tbs.T (upd H p o) := fun q hq => by
  obtain ⟨ps, h1, h2, h3⟩ := h q hq
  have n1 : q.1 ≠ p := fun e => by
    rw [e, hp] at h1
    cases h1
    cases hu
  refine ⟨ps, by rw [upd_ne n1]; exact h1, h2, fun pos cv hc' => ?_⟩
  obtain ⟨c, e1, e2⟩ := h3 pos cv hc'
  refine ⟨c, e1, ?_⟩
  have n2 : c ≠ p := fun e => by
    rw [e, hp] at e2
    exact hc q.2 (Option.some.inj e2)
  rw [upd_ne n2]
  exact e2
theorem isPl_tbl {o : HO} (h : isPl o = true) : isTbl o = false := by cases o <;> first | rfl | cases h
theorem isPl_code {o : HO} {q : Str} (h : isPl o = true) : o ≠ LamX.CodeO p q := fun e => by rw [e] at h; cases h
theorem tabs_put {o u : HO} (h : LamX.Tabs Tbs.T H) (hp : H p = some u) (hu : isPl u = true) : LamX.Tabs Tbs.T (upd H p o) := tabs_putG h hp (isPl_tbl hu) fun _ => isPl_code hu
theorem obE_code {o : PySem.Obj} {q : Str} (hx : ∃ h : Heap, h.get? p = some o) (hd : ∀ vs, o.data ≠ .fields vs) : obE p o ≠ LamX.CodeO p q := fun e => by
  obtain ⟨h, e0⟩ := hx
  unfold LamX.CodeO at e
  have e1 := congrFun (HO.ext.inj e) h
  obtain ⟨oc, vs, t, e2, e3, _⟩ := e1.mp e0
  rw [e0] at e2
  cases e2
  exact hd vs e3
theorem upd_some {v : HO} {a : Addr} {P : HO → Prop} (h : ∃ u, H a = some u ∧ P u) (hv : P v) : ∃ u, upd H p v a = some u ∧ P u := by
  by_cases e : a = p
  · subst e; exact ⟨v, upd_same, hv⟩
  · obtain ⟨u, h1, h2⟩ := h
    exact ⟨u, by rw [upd_ne e]; exact h1, h2⟩
/-- a frozen object is laid -/
theorem SRel.lay {o : HO} (S : SRel F ms st H) (hp : H p = none) (ho : isTbl o = false := by rfl) : SRel (upg F p o) ms st (upd H p o) where
  len := S.len
  nd := S.nd
  le := fun a u h => by
    by_cases e : a = p
    · subst e
      rw [upg_same] at h
      exact .inl (by rw [upd_same]; exact h)
    · rw [upg_ne e] at h
      exact Rd.upd (S.le a u h) hp
  at_ := fun n a ob e1 e2 => by
    have hne : a ≠ p := fun q => S.nm hp (by rw [← q]; exact List.mem_of_getElem? e1)
    refine (S.at_ n a ob e1 e2).mono (fun b u h => ?_) (fun h => ?_) (List.prefix_refl _) fun u h => ?_
    · rw [upg_ne (ne_of_none h (S.notF hp))]; exact h
    · rw [upg_ne hne]; exact h
    · rw [upd_ne hne]; exact h
  nt := fun a u h => by
    by_cases e : a = p
    · rw [e, upg_same] at h; cases h; exact ho
    · rw [upg_ne e] at h; exact S.nt a u h
  tabs := tabs_lay S.tabs hp
  obh := fun a n o h => upd_some (S.obh a n o h) ho
theorem Stp.lay {o : HO} (S : SRel F ms st H) (hp : H p = none) : Stp F ms H (upg F p o) ms (upd H p o) where
  sub := fun a u h => by rw [upg_ne (ne_of_none h (S.notF hp))]; exact h
  pre := List.prefix_refl _
  keep := fun a u h _ _ => by rw [upd_ne (ne_of_none h hp)]; exact h
  new := fun a h n => absurd h n
  newF := fun a u h => by
    by_cases q : a = p
    · subst q; exact .inr (.inl (.of hp))
    · rw [upg_ne q] at h; exact .inl h
  obs := fun _ _ _ h => h
/-- a mutable object is made -/
theorem SRel.makeG {u : HO} {o : Obj} {z : Addr → Nat → Option PySem.Obj} (S : SRel F ms st H) (hp : H p = none) (new : ObR ⟨F.hp, z⟩ (ms ++ [p]) (upd H p u) p o) (hz : ∀ a, a ≠ p → z a = F.ob a := by intro _ _; rfl) (hu : isTbl u = false := by rfl) : SRel ⟨F.hp, z⟩ (ms ++ [p]) (st ++ [o]) (upd H p u) where
  len := by simp [S.len]
  nd := by
    rw [List.nodup_append]
    exact ⟨S.nd, by simp, fun a ha b hb e => S.nm hp (by simp at hb; rw [← hb, ← e]; exact ha)⟩
  le := fun a v h => Rd.upd (S.le a v h) hp
  at_ := fun n a ob e1 e2 => by
    by_cases hn : n < ms.length
    · rw [List.getElem?_append_left hn] at e1
      rw [List.getElem?_append_left (by rw [← S.len]; exact hn)] at e2
      have hne : a ≠ p := fun q => S.nm hp (by rw [← q]; exact List.mem_of_getElem? e1)
      exact (S.at_ n a ob e1 e2).mono (F := F) (F1 := ⟨F.hp, z⟩) (fun b v h => h) (fun h => h) (List.prefix_append _ _) (fun v h => by rw [upd_ne hne]; exact h) (hz a hne)
    · have hl := (List.getElem?_eq_some_iff.mp e1).1
      have : n = ms.length := by simp at hl; omega
      subst this
      rw [List.getElem?_append_right (Nat.le_refl _)] at e1
      rw [S.len, List.getElem?_append_right (Nat.le_refl _)] at e2
      simp at e1 e2
      subst e1; subst e2
      exact new
  nt := S.nt
  tabs := tabs_lay S.tabs hp
  obh := fun a n o h => by
    by_cases e : a = p
    · subst e; exact ⟨u, upd_same, hu⟩
    · have h' : F.ob a n = some o := by rw [← hz a e]; exact h
      exact upd_some (S.obh a n o h') hu
theorem SRel.make {u : HO} {o : Obj} (S : SRel F ms st H) (hp : H p = none) (new : ObR F (ms ++ [p]) (upd H p u) p o) (hu : isTbl u = false := by rfl) : SRel F (ms ++ [p]) (st ++ [o]) (upd H p u) :=
  SRel.makeG (z := F.ob) S hp new (fun _ _ => rfl) hu
theorem SRel.obN (S : SRel F ms st H) (hp : H p = none) (n : Nat) : F.ob p n = none := by
  cases q : F.ob p n with
  | none => rfl
  | some o =>
    obtain ⟨u, e, _⟩ := S.obh p n o q
    rw [hp] at e; cases e
theorem Stp.makeG {u : HO} {z : Addr → Nat → Option PySem.Obj} (hp : H p = none) (hz : ∀ a n o, F.ob a n = some o → z a n = some o) : Stp F ms H ⟨F.hp, z⟩ (ms ++ [p]) (upd H p u) where
  sub := fun _ _ h => h
  pre := List.prefix_append _ _
  keep := fun a v h _ _ => by rw [upd_ne (ne_of_none h hp)]; exact h
  new := fun a h n => by
    rcases List.mem_append.mp h with h | h
    · exact absurd h n
    · simp at h; subst h; exact .of hp
  newF := fun _ _ h => .inl h
  obs := hz
theorem Stp.make {u : HO} (hp : H p = none) : Stp F ms H F (ms ++ [p]) (upd H p u) where
  sub := fun _ _ h => h
  pre := List.prefix_append _ _
  keep := fun a v h _ _ => by rw [upd_ne (ne_of_none h hp)]; exact h
  new := fun a h n => by
    rcases List.mem_append.mp h with h | h
    · exact absurd h n
    · simp at h; subst h; exact .of hp
  newF := fun _ _ h => .inl h
  obs := fun _ _ _ h => h
/-- a mutable object is changed -/
theorem SRel.writeG {u z : HO} {o : Obj} {n : Nat} {g : Addr → Nat → Option PySem.Obj} (S : SRel F ms st H) (e : ms[n]? = some p) (hF : F p = none) (hz : H p = some z) (new : ObR ⟨F.hp, g⟩ ms (upd H p u) p o) (hg : ∀ a, a ≠ p → g a = F.ob a) (hi : isTbl z = false) (hc : ∀ q, z ≠ LamX.CodeO p q) (hu : isTbl u = false) : SRel ⟨F.hp, g⟩ ms (st.set n o) (upd H p u) where
  len := by simp [S.len]
  nd := S.nd
  le := fun a v h => by
    have hne : a ≠ p := fun q => by rw [q, hF] at h; cases h
    rcases S.le a v h with z | ⟨ob, z⟩
    · exact .inl (by rw [upd_ne hne]; exact z)
    · exact .inr ⟨ob, by rw [upd_ne hne]; exact z⟩
  at_ := fun j a ob e1 e2 => by
    by_cases hj : j = n
    · subst hj
      rw [e] at e1; cases e1
      have hl : j < st.length := by rw [← S.len]; exact (List.getElem?_eq_some_iff.mp e).1
      rw [List.getElem?_set_self hl] at e2
      cases e2
      exact new
    · rw [List.getElem?_set_ne (Ne.symm hj)] at e2
      have hne : a ≠ p := fun q => by
        subst q
        exact hj (nd_ix S.nd e1 e)
      exact (S.at_ j a ob e1 e2).mono (F := F) (F1 := ⟨F.hp, g⟩) (fun b v h => h) (fun h => h) (List.prefix_refl _) (fun v h => by rw [upd_ne hne]; exact h) (hg a hne)
  nt := S.nt
  tabs := tabs_putG S.tabs hz hi hc
  obh := fun a n o h => by
    by_cases e : a = p
    · subst e; exact ⟨u, upd_same, hu⟩
    · have h' : F.ob a n = some o := by rw [← hg a e]; exact h
      exact upd_some (S.obh a n o h') hu
theorem SRel.write {u z : HO} {o : Obj} {n : Nat} (S : SRel F ms st H) (e : ms[n]? = some p) (hF : F p = none) (hz : H p = some z) (new : ObR F ms (upd H p u) p o) (hi : isPl z = true := by rfl) (hu : isTbl u = false := by rfl) : SRel F ms (st.set n o) (upd H p u) :=
  SRel.writeG (g := F.ob) S e hF hz new (fun _ _ => rfl) (isPl_tbl hi) (fun _ => isPl_code hi) hu
theorem Stp.writeG {u : HO} {g : Addr → Nat → Option PySem.Obj} (hm : p ∈ ms) (hg : ∀ a n o, F.ob a n = some o → g a n = some o) : Stp F ms H ⟨F.hp, g⟩ ms (upd H p u) where
  sub := fun _ _ h => h
  pre := List.prefix_refl _
  keep := fun a v h n _ => by rw [upd_ne (fun q => n (by rw [q]; exact hm))]; exact h
  new := fun a h n => absurd h n
  newF := fun _ _ h => .inl h
  obs := hg
theorem Stp.write {u : HO} (hm : p ∈ ms) : Stp F ms H F ms (upd H p u) where
  sub := fun _ _ h => h
  pre := List.prefix_refl _
  keep := fun a v h n _ => by rw [upd_ne (fun q => n (by rw [q]; exact hm))]; exact h
  new := fun a h n => absurd h n
  newF := fun _ _ h => .inl h
  obs := fun _ _ _ h => h
/-- a mutable object is finished: it goes over to the frozen part -/
theorem SRel.frz {u : HO} {n : Nat} (S : SRel F ms st H) (e : ms[n]? = some p) (hF : F p = none) (hH : H p = some u) (hp : isPl u = true := by rfl) (hu : isTbl u = false := by rfl) : SRel (upg F p u) ms (st.set n .dead) H where
  len := by simp [S.len]
  nd := S.nd
  le := fun a v h => by
    by_cases q : a = p
    · subst q
      rw [upg_same] at h; cases h
      exact .inl hH
    · rw [upg_ne q] at h
      exact S.le a v h
  at_ := fun j a ob e1 e2 => by
    by_cases hj : j = n
    · subst hj
      have hl : j < st.length := by rw [← S.len]; exact (List.getElem?_eq_some_iff.mp e).1
      rw [List.getElem?_set_self hl] at e2
      cases e2
      rw [e] at e1; cases e1
      exact ⟨_, hH, hp⟩
    · rw [List.getElem?_set_ne (Ne.symm hj)] at e2
      have hne : a ≠ p := fun q => by
        subst q
        exact hj (nd_ix S.nd e1 e)
      exact (S.at_ j a ob e1 e2).mono (fun b v h => by rw [upg_ne (ne_of_none h hF)]; exact h) (fun h => by rw [upg_ne hne]; exact h) (List.prefix_refl _) fun v h => h
  nt := fun a v h => by
    by_cases e : a = p
    · rw [e, upg_same] at h; cases h; exact hu
    · rw [upg_ne e] at h; exact S.nt a v h
  tabs := S.tabs
  obh := S.obh
theorem Stp.frz {u : HO} (hF : F p = none) (hm : p ∈ ms) : Stp F ms H (upg F p u) ms H where
  sub := fun a v h => by rw [upg_ne (ne_of_none h hF)]; exact h
  pre := List.prefix_refl _
  keep := fun _ _ h _ _ => h
  new := fun a h n => absurd h n
  newF := fun a v h => by
    by_cases q : a = p
    · subst q; exact .inr (.inr hm)
    · rw [upg_ne q] at h; exact .inl h
  obs := fun _ _ _ h => h
/-- an object beside all this changes -/
theorem SRel.side {u : HO} (S : SRel F ms st H) (hF : F p = none) (hm : p ∉ ms) (ht : LamX.Tabs Tbs.T (upd H p u)) (hu : isTbl u = false := by rfl) : SRel F ms st (upd H p u) where
  len := S.len
  nd := S.nd
  le := fun a v h => by
    have hne : a ≠ p := fun q => by rw [q, hF] at h; cases h
    rcases S.le a v h with z | ⟨ob, z⟩
    · exact .inl (by rw [upd_ne hne]; exact z)
    · exact .inr ⟨ob, by rw [upd_ne hne]; exact z⟩
  at_ := fun j a ob e1 e2 => by
    have hne : a ≠ p := fun q => hm (by rw [← q]; exact List.mem_of_getElem? e1)
    exact (S.at_ j a ob e1 e2).mono (fun b v h => h) (fun h => h) (List.prefix_refl _) fun v h => by rw [upd_ne hne]; exact h
  nt := S.nt
  tabs := ht
  obh := fun a n o h => upd_some (S.obh a n o h) hu
/-- an object beside all this becomes data -/
theorem SRel.claim {u : HO} (S : SRel F ms st H) (hF : F p = none) (hm : p ∉ ms) (hH : H p = some u) (hu : isTbl u = false := by rfl) : SRel (upg F p u) ms st H where
  len := S.len
  nd := S.nd
  le := fun a v h => by
    by_cases q : a = p
    · subst q
      rw [upg_same] at h; cases h
      exact .inl hH
    · rw [upg_ne q] at h
      exact S.le a v h
  at_ := fun j a ob e1 e2 => by
    have hne : a ≠ p := fun q => hm (by rw [← q]; exact List.mem_of_getElem? e1)
    exact (S.at_ j a ob e1 e2).mono (fun b v h => by rw [upg_ne (ne_of_none h hF)]; exact h) (fun h => by rw [upg_ne hne]; exact h) (List.prefix_refl _) fun v h => h
  nt := fun a v h => by
    by_cases e : a = p
    · rw [e, upg_same] at h; cases h; exact hu
    · rw [upg_ne e] at h; exact S.nt a v h
  tabs := S.tabs
  obh := S.obh
/-- .. becomes an object of the store -/
theorem SRel.adopt {o : Obj} (S : SRel F ms st H) (hm : p ∉ ms) (new : ObR F (ms ++ [p]) H p o) : SRel F (ms ++ [p]) (st ++ [o]) H where
  len := by simp [S.len]
  nd := by
    rw [List.nodup_append]
    exact ⟨S.nd, by simp, fun a ha b hb e => hm (by simp at hb; rw [← hb, ← e]; exact ha)⟩
  le := S.le
  at_ := fun n a ob e1 e2 => by
    by_cases hn : n < ms.length
    · rw [List.getElem?_append_left hn] at e1
      rw [List.getElem?_append_left (by rw [← S.len]; exact hn)] at e2
      exact (S.at_ n a ob e1 e2).mono (fun b v h => h) (fun h => h) (List.prefix_append _ _) fun v h => h
    · have hl := (List.getElem?_eq_some_iff.mp e1).1
      have : n = ms.length := by simp at hl; omega
      subst this
      rw [List.getElem?_append_right (Nat.le_refl _)] at e1
      rw [S.len, List.getElem?_append_right (Nat.le_refl _)] at e2
      simp at e1 e2
      subst e1; subst e2
      exact new
  nt := S.nt
  tabs := S.tabs
  obh := S.obh
theorem RpL.back {F1 : Gh} {ms1 : List Addr} (pr : ms <+: ms1) : ∀ {ws : List W} {vs us : List V}, RpL F ms vs ws → RpL F1 ms1 us ws → RpL F1 ms us ws
  | [], [], [], _, _ => trivial
  | .d x :: ws, v :: vs, u :: us, ⟨_, t⟩, ⟨h, t1⟩ => ⟨h, RpL.back pr t t1⟩
  | .r n :: ws, v :: vs, u :: us, ⟨⟨a, e, _⟩, t⟩, ⟨⟨b, e1, h1⟩, t1⟩ => ⟨⟨a, e, by rw [pre_get pr e] at e1; cases e1; exact h1⟩, RpL.back pr t t1⟩
  | [], _ :: _, _, h, _ => h.elim
  | [], [], _ :: _, _, h => h.elim
  | _ :: _, [], _, h, _ => h.elim
  | _ :: _, _ :: _, [], _, h => h.elim
theorem Rp.back {F1 : Gh} {ms1 : List Addr} (pr : ms <+: ms1) {w : W} {v u : V} (h : Rp F ms v w) (h1 : Rp F1 ms1 u w) : Rp F1 ms u w := by
  have := RpL.back (ws := [w]) (vs := [v]) (us := [u]) pr ⟨h, trivial⟩ ⟨h1, trivial⟩
  exact this.1
theorem KvA.back {F1 : Gh} {ms1 : List Addr} (pr : ms <+: ms1) : ∀ {ks : List (D × W)} {vs us : List (Option L2.Key × Value)}, KvA F ms vs ks → KvA F1 ms1 us ks → KvA F1 ms us ks
  | [], [], [], _, _ => trivial
  | _ :: _, _ :: _, _ :: _, ⟨⟨_, _, v, _, h⟩, t⟩, ⟨⟨a, b, u, c, h1⟩, t1⟩ => ⟨⟨a, b, u, c, Rp.back pr h h1⟩, KvA.back pr t t1⟩
  | [], _ :: _, _, h, _ => h.elim
  | [], [], _ :: _, _, h => h.elim
  | _ :: _, [], _, h, _ => h.elim
  | _ :: _, _ :: _, [], _, h => h.elim
theorem KvA.len : ∀ {ks : List (D × W)} {vs : List (Option L2.Key × Value)}, KvA F ms vs ks → vs.length = ks.length
  | [], [], _ => rfl
  | _ :: _, _ :: _, h => congrArg Nat.succ (KvA.len h.2)
  | [], _ :: _, h => h.elim
  | _ :: _, [], h => h.elim
theorem KvT.len : ∀ {ks : List (D × W)} {vs : List (List (Option L2.Key) × Addr × Value)}, KvT F ms vs ks → vs.length = ks.length
  | [], [], _ => rfl
  | _ :: _, _ :: _, h => congrArg Nat.succ (KvT.len h.2)
  | [], _ :: _, h => h.elim
  | _ :: _, [], h => h.elim
/-- each value has a value -/
def KvW (F : Gh) (ms : List Addr) (ks : List (D × W)) : Prop := ∀ q ∈ ks, ∃ v, Rp F ms v q.2
theorem KvA.vals : ∀ {ks : List (D × W)} {vs : List (Option L2.Key × Value)}, KvA F ms vs ks → KvW F ms ks
  | [], [], _, q, hq => by cases hq
  | _ :: _, _ :: _, ⟨⟨_, _, v, _, h⟩, t⟩, q, hq => by
    rcases List.mem_cons.mp hq with rfl | hq
    · exact ⟨v, h⟩
    · exact KvA.vals t q hq
  | [], _ :: _, h, _, _ => h.elim
  | _ :: _, [], h, _, _ => h.elim
theorem KvT.vals : ∀ {ks : List (D × W)} {vs : List (List (Option L2.Key) × Addr × Value)}, KvT F ms vs ks → KvW F ms ks
  | [], [], _, q, hq => by cases hq
  | _ :: _, _ :: _, ⟨⟨_, _, _, _, v, _, h⟩, t⟩, q, hq => by
    rcases List.mem_cons.mp hq with rfl | hq
    · exact ⟨v, h⟩
    · exact KvT.vals t q hq
  | [], _ :: _, h, _, _ => h.elim
  | _ :: _, [], h, _, _ => h.elim
theorem DcO.vals {o : PySem.Obj} {ks : List (D × W)} : DcO F ms o ks → KvW F ms ks
  | .inl ⟨_, _, h⟩ => h.vals
  | .inr ⟨_, _, h⟩ => h.vals
theorem KvA.backW {F1 : Gh} {ms1 : List Addr} (pr : ms <+: ms1) : ∀ {ks : List (D × W)} {us : List (Option L2.Key × Value)}, KvW F ms ks → KvA F1 ms1 us ks → KvA F1 ms us ks
  | [], [], _, _ => trivial
  | _ :: _, _ :: _, w, ⟨⟨a, b, u, c, h1⟩, t1⟩ => by
    obtain ⟨v, h⟩ := w _ List.mem_cons_self
    exact ⟨⟨a, b, u, c, Rp.back pr h h1⟩, KvA.backW pr (fun q hq => w q (List.mem_cons_of_mem _ hq)) t1⟩
  | [], _ :: _, _, h => h.elim
  | _ :: _, [], _, h => h.elim
theorem KvT.backW {F1 : Gh} {ms1 : List Addr} (pr : ms <+: ms1) : ∀ {ks : List (D × W)} {us : List (List (Option L2.Key) × Addr × Value)}, KvW F ms ks → KvT F1 ms1 us ks → KvT F1 ms us ks
  | [], [], _, _ => trivial
  | _ :: _, _ :: _, w, ⟨⟨a, b, c, d, u, e, h1⟩, t1⟩ => by
    obtain ⟨v, h⟩ := w _ List.mem_cons_self
    exact ⟨⟨a, b, c, d, u, e, Rp.back pr h h1⟩, KvT.backW pr (fun q hq => w q (List.mem_cons_of_mem _ hq)) t1⟩
  | [], _ :: _, _, h => h.elim
  | _ :: _, [], _, h => h.elim
theorem DcO.backW {F1 : Gh} {ms1 : List Addr} {o : PySem.Obj} {ks : List (D × W)} (pr : ms <+: ms1) (w : KvW F ms ks) : DcO F1 ms1 o ks → DcO F1 ms o ks
  | .inl ⟨vs, h, t⟩ => .inl ⟨vs, h, t.backW pr w⟩
  | .inr ⟨vs, h, t⟩ => .inr ⟨vs, h, t.backW pr w⟩
/-- what a call made is forgotten -/
theorem SRel.cut {F1 : Gh} {H1 : Hp} {ms1 : List Addr} {l1 : Loc} (S : SRel F ms st H) (pr : ms <+: ms1) (S1 : SRel F1 ms1 l1 H1) (hl1 : st <+: l1) : SRel F1 ms st H1 where
  len := S.len
  nd := S.nd
  le := S1.le
  at_ := fun n a o e1 e2 => by
    have hl := (List.getElem?_eq_some_iff.mp e2).1
    have R1 := S1.at_ n a o (pre_get pr e1) (by
      obtain ⟨r, rfl⟩ := hl1
      rw [List.getElem?_append_left hl]; exact e2)
    have R := S.at_ n a o e1 e2
    cases o with
    | lst ws =>
      obtain ⟨h0, vs, h1, h2⟩ := R1
      obtain ⟨_, us, _, h3⟩ := R
      exact ⟨h0, vs, h1, RpL.back pr h3 h2⟩
    | tup ws =>
      obtain ⟨h0, vs, h1, h2⟩ := R1
      obtain ⟨_, us, _, h3⟩ := R
      exact ⟨h0, vs, h1, RpL.back pr h3 h2⟩
    | dct _ ks =>
      obtain ⟨h0, o, h1, h2, h4⟩ := R1
      obtain ⟨_, _, _, _, h3⟩ := R
      exact ⟨h0, o, h1, h2, h4.backW pr h3.vals⟩
    | ins _ _ =>
      obtain ⟨h0, dx, vs, h1, hl, h2⟩ := R1
      obtain ⟨_, _, us, _, _, h3⟩ := R
      exact ⟨h0, dx, vs, h1, hl, RpL.back pr h3 h2⟩
    | dead => exact R1
  nt := S1.nt
  tabs := S1.tabs
  obh := S1.obh
theorem Stp.cut {F1 : Gh} {H1 : Hp} {ms1 : List Addr} (t : Stp F ms H F1 ms1 H1) : Stp F ms H F1 ms H1 where
  sub := t.sub
  pre := List.prefix_refl _
  keep := t.keep
  new := fun a h n => absurd h n
  newF := fun a o h => by
    rcases t.newF a o h with h1 | h1 | h1
    · exact .inl h1
    · exact .inr (.inl h1)
    · by_cases hm : a ∈ ms
      · exact .inr (.inr hm)
      · exact .inr (.inl (t.new a h1 hm))
  obs := t.obs
end
/-- all but tables stay -/
theorem Stp.tab {F : Gh} {ms : List Addr} {H H1 : Hp} (e : LamX.ExtN H H1) : Stp F ms H F ms H1 := ⟨fun _ _ h => h, List.prefix_refl _, fun _ _ h _ i => e _ _ h (isTbl_ne i), fun _ h n => absurd h n, fun _ _ h => .inl h, fun _ _ _ h => h⟩
theorem SRel.tab [Spv] {F : Gh} {ms : List Addr} {st : Loc} {H H1 : Hp} (S : SRel F ms st H) (e : LamX.ExtN H H1) (t : LamX.Tabs Tbs.T H1) : SRel F ms st H1 where
  len := S.len
  nd := S.nd
  le := fun a o h => by
    have i := S.nt a o h
    rcases S.le a o h with z | ⟨ob, z⟩
    · exact .inl (e _ _ z (isTbl_ne i))
    · exact .inr ⟨ob, e _ _ z (isTbl_ne rfl)⟩
  at_ := fun n a o e1 e2 => by
    have R := S.at_ n a o e1 e2
    cases o with
    | lst ws => obtain ⟨h0, vs, h1, h2⟩ := R; exact ⟨h0, vs, e _ _ h1 (isTbl_ne rfl), h2⟩
    | tup ws => obtain ⟨h0, vs, h1, h2⟩ := R; exact ⟨h0, vs, e _ _ h1 (isTbl_ne rfl), h2⟩
    | dct _ ws => obtain ⟨h0, o, hn, h1, h2⟩ := R; exact ⟨h0, o, hn, e _ _ h1 (isTbl_ne rfl), h2⟩
    | ins _ _ => obtain ⟨h0, dx, vs, h1, h2⟩ := R; exact ⟨h0, dx, vs, e _ _ h1 (isTbl_ne rfl), h2⟩
    | dead => obtain ⟨u, h1, h2⟩ := R; exact ⟨u, e _ _ h1 (isTbl_ne (isPl_tbl h2)), h2⟩
  nt := S.nt
  tabs := t
  obh := fun a n o h => by
    obtain ⟨u, h1, h2⟩ := S.obh a n o h
    exact ⟨u, e _ _ h1 (isTbl_ne h2), h2⟩
/-- a code object is no object of the store -/
theorem SRel.notCode [Spv] {F : Gh} {ms : List Addr} {st : Loc} {H : Hp} {a : Addr} {q : Str} (S : SRel F ms st H) (h : H a = some (LamX.CodeO a q)) : a ∉ ms := fun hm => by
  obtain ⟨n, hn⟩ := List.getElem?_of_mem hm
  have hl : n < st.length := by rw [← S.len]; exact (List.getElem?_eq_some_iff.mp hn).1
  have R := S.at_ n a _ hn (List.getElem?_eq_getElem hl)
  cases q : st[n] with
  | lst ws => rw [q] at R; obtain ⟨_, vs, e, _⟩ := R; rw [h] at e; cases e
  | tup ws => rw [q] at R; obtain ⟨_, vs, e, _⟩ := R; rw [h] at e; cases e
  | dct _ _ =>
    rw [q] at R
    obtain ⟨_, o, ⟨_, _, _, _, hx⟩, e, z⟩ := R
    rw [h] at e
    refine obE_code hx (fun vs hv => ?_) (Option.some.inj e).symm
    rcases z with ⟨_, ⟨_, _, _, hd, _⟩, _⟩ | ⟨_, ⟨_, _, _, hd, _⟩, _⟩
    · rw [hv] at hd; cases hd
    · rw [hv] at hd; cases hd
  | ins _ _ => rw [q] at R; obtain ⟨_, dx, vs, e, _⟩ := R; rw [h] at e; cases e
  | dead => rw [q] at R; obtain ⟨o, e, i⟩ := R; rw [h] at e; cases e; cases i
/-! from one reading of exceptions to another one -/
section
variable {sp1 sp2 : Spv} {F : Gh} {ms : List Addr} {H : Hp}
mutual
theorem Rep.conv : ∀ (d : D) (v : V), noIns d = true → @Rep sp1 F v d → @Rep sp2 F v d
  | .non, _, _, h => h
  | .bl _, _, _, h => h
  | .int _, _, _, h => h
  | .str _, _, _, h => h
  | .tup ds, v, n, h => by
    unfold Rep at h ⊢
    obtain ⟨a, vs, e, ha, hl⟩ := h
    exact ⟨a, vs, e, ha, RepL.conv ds vs (by simpa [noIns] using n) hl⟩
  | .lst ds, v, n, h => by
    unfold Rep at h ⊢
    obtain ⟨a, vs, e, ha, hl⟩ := h
    exact ⟨a, vs, e, ha, RepL.conv ds vs (by simpa [noIns] using n) hl⟩
  | .dct ds, v, n, h => by
    unfold Rep at h ⊢
    exact h
  | .ins _ _, _, n, h => by simp [noIns] at n
theorem RepL.conv : ∀ (ds : List D) (vs : List V), noInsL ds = true → @RepL sp1 F vs ds → @RepL sp2 F vs ds
  | [], _, _, h => by unfold RepL at h ⊢; exact h
  | d :: ds, vs, n, h => by
    have n' : noIns d = true ∧ noInsL ds = true := by simpa [noInsL] using n
    unfold RepL at h ⊢
    obtain ⟨v, r, e, h1, h2⟩ := h
    exact ⟨v, r, e, Rep.conv d v n'.1 h1, RepL.conv ds r n'.2 h2⟩
end
mutual
theorem Rep.noIns (z : ∀ a c ds, ¬ sp1.P a c ds) : ∀ (d : D) (v : V), @Rep sp1 F v d → noIns d = true
  | .non, _, h => rfl
  | .bl _, _, h => rfl
  | .int _, _, h => rfl
  | .str _, _, h => rfl
  | .tup ds, v, h => by
    unfold Rep at h
    obtain ⟨a, vs, e, ha, hl⟩ := h
    simpa [Vx.noIns] using RepL.noIns z ds vs hl
  | .lst ds, v, h => by
    unfold Rep at h
    obtain ⟨a, vs, e, ha, hl⟩ := h
    simpa [Vx.noIns] using RepL.noIns z ds vs hl
  | .dct ds, v, h => by
    unfold Rep at h
    obtain ⟨rfl, _⟩ := h
    rfl
  | .ins c ds, _, h => by
    unfold Rep at h
    obtain ⟨a, _, h⟩ := h
    exact absurd h (z _ _ _)
theorem RepL.noIns (z : ∀ a c ds, ¬ sp1.P a c ds) : ∀ (ds : List D) (vs : List V), @RepL sp1 F vs ds → noInsL ds = true
  | [], _, h => rfl
  | d :: ds, vs, h => by
    unfold RepL at h
    obtain ⟨v, r, e, h1, h2⟩ := h
    simp [noInsL, Rep.noIns z d v h1, RepL.noIns z ds r h2]
end
theorem Rp.conv {v : V} {w : W} (n : noInsW w = true) (h : @Rp sp1 F ms v w) : @Rp sp2 F ms v w := by
  cases w with
  | d x => exact Rep.conv x v n h
  | r n => exact h
theorem Rp.noIns (z : ∀ a c ds, ¬ sp1.P a c ds) {v : V} {w : W} (h : @Rp sp1 F ms v w) : noInsW w = true := by
  cases w with
  | d x => exact Rep.noIns z x v h
  | r n => rfl
theorem RpL.conv : ∀ {vs : List V} {ws : List W}, (∀ w ∈ ws, noInsW w = true) → @RpL sp1 F ms vs ws → @RpL sp2 F ms vs ws
  | [], [], _, _ => trivial
  | _ :: _, _ :: _, n, ⟨h, t⟩ => ⟨h.conv (n _ List.mem_cons_self), RpL.conv (fun w hw => n w (List.mem_cons_of_mem _ hw)) t⟩
  | [], _ :: _, _, h => h.elim
  | _ :: _, [], _, h => h.elim
theorem RpL.noIns (z : ∀ a c ds, ¬ sp1.P a c ds) : ∀ {vs : List V} {ws : List W}, @RpL sp1 F ms vs ws → ∀ w ∈ ws, noInsW w = true
  | [], [], _, w, hw => by cases hw
  | _ :: _, _ :: _, ⟨h, t⟩, w, hw => by
    rcases List.mem_cons.mp hw with rfl | hw
    · exact h.noIns z
    · exact RpL.noIns z t w hw
  | [], _ :: _, h, _, _ => h.elim
  | _ :: _, [], h, _, _ => h.elim
theorem KvA.conv : ∀ {kvs : List (Option L2.Key × Value)} {ks : List (D × W)}, (∀ q ∈ ks, noInsW q.2 = true) → @KvA sp1 F ms kvs ks → @KvA sp2 F ms kvs ks
  | [], [], _, _ => trivial
  | _ :: _, _ :: _, n, ⟨⟨a, b, v, c, h⟩, t⟩ => ⟨⟨a, b, v, c, h.conv (n _ List.mem_cons_self)⟩, KvA.conv (fun w hw => n w (List.mem_cons_of_mem _ hw)) t⟩
  | [], _ :: _, _, h => h.elim
  | _ :: _, [], _, h => h.elim
theorem isKy_noIns {d : D} (h : isKy d = true) : noIns d = true := by
  have at_ : ∀ d : D, isAt d = true → noIns d = true := fun d h => by cases d <;> first | rfl | cases h
  cases d with
  | tup ds =>
    have h' : ds.all isAt = true := h
    show noInsL ds = true
    induction ds with
    | nil => rfl
    | cons d ds ih =>
      simp only [List.all_cons, Bool.and_eq_true] at h'
      show (noIns d && noInsL ds) = true
      rw [at_ d h'.1, ih h'.2 h'.2]
      rfl
  | _ => exact at_ _ h
theorem KvT.conv : ∀ {kvs : List (List (Option L2.Key) × Addr × Value)} {ks : List (D × W)}, (∀ q ∈ ks, noInsW q.2 = true) → @KvT sp1 F ms kvs ks → @KvT sp2 F ms kvs ks
  | [], [], _, _ => trivial
  | _ :: _, _ :: _, n, ⟨⟨a, b, c, d, v, e, h⟩, t⟩ => ⟨⟨a, b, c, Rep.conv _ _ (isKy_noIns b) d, v, e, h.conv (n _ List.mem_cons_self)⟩, KvT.conv (fun w hw => n w (List.mem_cons_of_mem _ hw)) t⟩
  | [], _ :: _, _, h => h.elim
  | _ :: _, [], _, h => h.elim
theorem KvA.noIns (z : ∀ a c ds, ¬ sp1.P a c ds) : ∀ {kvs : List (Option L2.Key × Value)} {ks : List (D × W)}, @KvA sp1 F ms kvs ks → ∀ q ∈ ks, noInsW q.2 = true
  | [], [], _, w, hw => by cases hw
  | _ :: _, _ :: _, ⟨⟨_, _, v, _, h⟩, t⟩, w, hw => by
    rcases List.mem_cons.mp hw with rfl | hw
    · exact h.noIns z
    · exact KvA.noIns z t w hw
  | [], _ :: _, h, _, _ => h.elim
  | _ :: _, [], h, _, _ => h.elim
theorem KvT.noIns (z : ∀ a c ds, ¬ sp1.P a c ds) : ∀ {kvs : List (List (Option L2.Key) × Addr × Value)} {ks : List (D × W)}, @KvT sp1 F ms kvs ks → ∀ q ∈ ks, noInsW q.2 = true
  | [], [], _, w, hw => by cases hw
  | _ :: _, _ :: _, ⟨⟨_, _, _, _, v, _, h⟩, t⟩, w, hw => by
    rcases List.mem_cons.mp hw with rfl | hw
    · exact h.noIns z
    · exact KvT.noIns z t w hw
  | [], _ :: _, h, _, _ => h.elim
  | _ :: _, [], h, _, _ => h.elim
/-- an object holds no exception -/
def noInsO : Obj → Prop
  | .lst ws => ∀ w ∈ ws, noInsW w = true
  | .tup ws => ∀ w ∈ ws, noInsW w = true
  | .dct _ ks => ∀ q ∈ ks, noInsW q.2 = true
  | .ins _ ws => ∀ w ∈ ws, noInsW w = true
  | _ => True
theorem ObR.conv {a : Addr} : ∀ {o : Obj}, noInsO o → @ObR tb sp1 F ms H a o → @ObR tb sp2 F ms H a o
  | .lst _, n, ⟨h0, vs, h1, h2⟩ => ⟨h0, vs, h1, h2.conv n⟩
  | .tup _, n, ⟨h0, vs, h1, h2⟩ => ⟨h0, vs, h1, h2.conv n⟩
  | .dct _ _, n, ⟨h0, o, h1, h2, .inl ⟨vs, h3, h4⟩⟩ => ⟨h0, o, h1, h2, .inl ⟨vs, h3, h4.conv n⟩⟩
  | .dct _ _, n, ⟨h0, o, h1, h2, .inr ⟨vs, h3, h4⟩⟩ => ⟨h0, o, h1, h2, .inr ⟨vs, h3, h4.conv n⟩⟩
  | .ins _ _, n, ⟨h0, dx, vs, h1, hl, h2⟩ => ⟨h0, dx, vs, h1, hl, h2.conv n⟩
  | .dead, _, h => h
theorem ObR.noIns (z : ∀ a c ds, ¬ sp1.P a c ds) {a : Addr} : ∀ {o : Obj}, @ObR tb sp1 F ms H a o → noInsO o
  | .lst _, ⟨h0, vs, h1, h2⟩ => h2.noIns z
  | .tup _, ⟨h0, vs, h1, h2⟩ => h2.noIns z
  | .dct _ _, ⟨h0, o, h1, h2, .inl ⟨vs, h3, h4⟩⟩ => h4.noIns z
  | .dct _ _, ⟨h0, o, h1, h2, .inr ⟨vs, h3, h4⟩⟩ => h4.noIns z
  | .ins _ _, ⟨h0, dx, vs, h1, hl, h2⟩ => h2.noIns z
  | .dead, h => trivial
theorem SRel.up {st : Loc} (z : ∀ a c ds, ¬ sp1.P a c ds) (S : @SRel _ sp1 F ms st H) : @SRel _ sp2 F ms st H := by
  obtain ⟨h1, h2, h3, h4, h5, h6, h7⟩ := S
  exact @SRel.mk _ sp2 _ _ _ _ h1 h2 h3 (fun n a o e1 e2 => @ObR.conv _ sp1 sp2 _ _ _ _ _ (@ObR.noIns _ sp1 _ _ _ z _ _ (h4 n a o e1 e2)) (h4 n a o e1 e2)) h5 h6 h7
theorem SRel.down {st : Loc} {F' : Gh} {H' : Hp} {ms' : List Addr} (z : ∀ a c ds, ¬ sp1.P a c ds) (S : @SRel _ sp1 F ms st H) (S1 : @SRel _ sp2 F' ms' st H') : @SRel _ sp1 F' ms' st H' := by
  obtain ⟨h1, h2, h3, h4, h5, h6, h7⟩ := S
  obtain ⟨k1, k2, k3, k4, k5, k6, k7⟩ := S1
  refine @SRel.mk _ sp1 _ _ _ _ k1 k2 k3 (fun n a o e1 e2 => @ObR.conv _ sp2 sp1 _ _ _ _ _ ?_ (k4 n a o e1 e2)) k5 k6 k7
  have hl := (List.getElem?_eq_some_iff.mp e2).1
  have hm : n < ms.length := by rw [h1]; exact hl
  exact @ObR.noIns _ sp1 _ _ _ z _ _ (h4 n _ o (List.getElem?_eq_getElem hm) e2)
theorem EnvR.up {ρ : Env} {σ : L2.St} (z : ∀ a c ds, ¬ sp1.P a c ds) (E : @EnvR sp1 F ms ρ σ) : @EnvR sp2 F ms ρ σ := by
  obtain ⟨h1, h2⟩ := E
  refine @EnvR.mk sp2 _ _ _ _ h1 fun i w e => ?_
  obtain ⟨v, a, b⟩ := h2 i w e
  exact ⟨v, a, @Rp.conv _ sp1 sp2 _ _ _ _ (@Rp.noIns _ sp1 _ _ z _ _ b) b⟩
theorem EnvR.noIns {ρ : Env} {σ : L2.St} (z : ∀ a c ds, ¬ sp1.P a c ds) (E : @EnvR sp1 F ms ρ σ) {i : Nat} {w : W} (e : ρ[i]? = some (some w)) : noInsW w = true := by
  obtain ⟨h1, h2⟩ := E
  obtain ⟨v, a, b⟩ := h2 i w e
  exact @Rp.noIns _ sp1 _ _ z _ _ b
theorem outO_at {a b : Option W} {w : W} (h : outO a b = some w) : b = some w ∧ (a = some w ∨ noInsW w = true) := by
  unfold outO at h
  split at h
  · rename_i e
    subst e
    exact ⟨h, .inl h⟩
  · cases b with
    | none => cases h
    | some u =>
      dsimp only at h
      split at h
      · rename_i q
        cases h
        exact ⟨rfl, .inr q⟩
      · cases h
/-- what is known behind a suite -/
theorem EnvR.out {F' : Gh} {ms' : List Addr} {ρ ρ2 : Env} {σ σ2 : L2.St} {i : Nat} (z : ∀ a c ds, ¬ sp1.P a c ds) (E : @EnvR sp1 F ms ρ σ) (E2 : @EnvR sp2 F' ms' ρ2 σ2) (hl : σ.length = σ2.length) : @EnvR sp1 F' ms' (outE ρ ρ2 i) (σ2.set i none) := by
  have no := fun i w e => @EnvR.noIns _ sp1 _ _ _ _ z E i w e
  obtain ⟨l1, _⟩ := E
  obtain ⟨l2, at2⟩ := E2
  refine @EnvR.mk sp1 _ _ _ _ (by simp [outE]; omega) fun j w e => ?_
  unfold outE at e
  by_cases hj : i = j
  · subst hj
    rw [List.getElem?_set] at e
    simp only [if_true] at e
    split at e <;> cases e
  · rw [List.getElem?_set_ne hj] at e
    rw [List.getElem?_set_ne hj]
    have e' : (List.zipWith outO ρ ρ2)[j]? = some (some w) := e
    rw [List.getElem?_zipWith] at e'
    cases q1 : ρ[j]? with
    | none => rw [q1] at e'; cases e'
    | some a =>
      cases q2 : ρ2[j]? with
      | none => rw [q1, q2] at e'; cases e'
      | some b =>
        rw [q1, q2] at e'
        have e3 : outO a b = some w := by simpa using e'
        obtain ⟨rfl, h⟩ := outO_at e3
        obtain ⟨v, hv, r⟩ := at2 j w q2
        refine ⟨v, hv, @Rp.conv _ sp2 sp1 _ _ _ _ ?_ r⟩
        rcases h with rfl | h
        · exact no _ _ q1
        · exact h
end
end Vx

set_option maxHeartbeats 4000000
/-! ### dicts of the store -/
namespace Vx
open PySem PySem.Spec PyProof.Rows L2
variable [tb : Tbs] [sp : Spv]
theorem sx_injP {a b : Tx} (h : sx a = sx b) : a = b := by
  have := congrArg TL.tl h
  rwa [tl_sx, tl_sx] at this
theorem atK_inj {a b : D} (ha : isAt a = true) (hb : isAt b = true) (h : atK a = atK b) : a = b := by
  cases a <;> first | (cases ha; done) | skip
  all_goals cases b <;> first | (cases hb; done) | skip
  all_goals first
    | rfl
    | (cases h; done)
    | skip
  · cases h; rfl
  · rename_i x y
    have : sx x = sx y := Sum.inr.inj (Option.some.inj h)
    rw [sx_injP this]
theorem atKs_inj : ∀ {a b : List D}, a.all isAt = true → b.all isAt = true → a.map atK = b.map atK → a = b
  | [], [], _, _, _ => rfl
  | [], _ :: _, _, _, h => by cases h
  | _ :: _, [], _, _, h => by cases h
  | x :: xs, y :: ys, ha, hb, h => by
    simp only [List.all_cons, Bool.and_eq_true] at ha hb
    rw [List.map_cons, List.map_cons] at h
    injection h with h1 h2
    rw [atK_inj ha.1 hb.1 h1, atKs_inj ha.2 hb.2 h2]
theorem tp_of {d : D} (h : isTp d = true) : ∃ ds, d = .tup ds := by cases d <;> first | exact ⟨_, rfl⟩ | cases h
theorem tpK_inj {a b : D} (ta : isTp a = true) (tb' : isTp b = true) (ha : isKy a = true) (hb : isKy b = true) (h : tpK a = tpK b) : a = b := by
  obtain ⟨x, rfl⟩ := tp_of ta
  obtain ⟨y, rfl⟩ := tp_of tb'
  rw [atKs_inj (show x.all isAt = true from ha) (show y.all isAt = true from hb) h]
theorem ky_at {d : D} (t : isTp d = false) (h : isKy d = true) : isAt d = true := by cases d <;> first | exact h | cases t
section
variable {F : Gh} {ms : List Addr}
theorem KvA.get : ∀ {ks : List (D × W)} {vs : List (Option L2.Key × Value)} {k : D}, KvA F ms vs ks → isAt k = true → match getK ks k with
    | none => valueAt vs (atK k) = none
    | some w => ∃ u v, valueAt vs (atK k) = some u ∧ RelV v u ∧ Rp F ms v w
  | [], [], _, _, _ => rfl
  | q :: ks, p :: vs, k, ⟨⟨h1, h2, v, h3, h4⟩, t⟩, hk => by
    by_cases e : q.1 = k
    · have e2 : p.1 = atK k := by rw [h2, e]
      have e3 : getK (q :: ks) k = some q.2 := by unfold getK; rw [if_pos e]
      rw [e3]
      exact ⟨p.2, v, by simp [valueAt, List.find?_cons, e2], h3, h4⟩
    · have e2 : ¬ p.1 = atK k := fun z => e (atK_inj h1 hk (by rw [← h2, z]))
      have e3 : getK (q :: ks) k = getK ks k := by rw [getK, if_neg e]
      have e4 : valueAt (p :: vs) (atK k) = valueAt vs (atK k) := by simp [valueAt, List.find?_cons, e2]
      rw [e3, e4]
      exact KvA.get t hk
  | [], _ :: _, _, h, _ => h.elim
  | _ :: _, [], _, h, _ => h.elim
theorem KvT.get : ∀ {ks : List (D × W)} {xs : List (List (Option L2.Key) × Addr × Value)} {k : D}, KvT F ms xs ks → isTp k = true → isKy k = true → match getK ks k with
    | none => atKey xs (tpK k) = none
    | some w => ∃ p v, atKey xs (tpK k) = some p ∧ RelV v p.2 ∧ Rp F ms v w
  | [], [], _, _, _, _ => rfl
  | q :: ks, p :: vs, k, ⟨⟨h1, h2, h5, _, v, h3, h4⟩, t⟩, hk, hk2 => by
    by_cases e : q.1 = k
    · have e2 : p.1 = tpK k := by rw [h5, e]
      have e3 : getK (q :: ks) k = some q.2 := by unfold getK; rw [if_pos e]
      rw [e3]
      exact ⟨p.2, v, by simp [atKey, List.find?_cons, e2], h3, h4⟩
    · have e2 : ¬ p.1 = tpK k := fun z => e (tpK_inj h1 hk h2 hk2 (by rw [← h5, z]))
      have e3 : getK (q :: ks) k = getK ks k := by rw [getK, if_neg e]
      have e4 : atKey (p :: vs) (tpK k) = atKey vs (tpK k) := by simp [atKey, List.find?_cons, e2]
      rw [e3, e4]
      exact KvT.get t hk hk2
  | [], _ :: _, _, h, _, _ => h.elim
  | _ :: _, [], _, h, _, _ => h.elim
theorem KvA.nmem : ∀ {ks : List (D × W)} {vs : List (Option L2.Key × Value)} {k : D}, KvA F ms vs ks → isAt k = true → getK ks k = none → ∀ p ∈ vs, p.1 ≠ atK k
  | [], [], _, _, _, _, p, hp => by cases hp
  | q :: ks, p :: vs, k, ⟨⟨h1, h2, _⟩, t⟩, hk, hn, r, hr => by
    by_cases e : q.1 = k
    · rw [getK, if_pos e] at hn; cases hn
    · rw [getK, if_neg e] at hn
      rcases List.mem_cons.mp hr with rfl | hr
      · exact fun z => e (atK_inj h1 hk (by rw [← h2, z]))
      · exact KvA.nmem t hk hn r hr
  | [], _ :: _, _, h, _, _, _, _ => h.elim
  | _ :: _, [], _, h, _, _, _, _ => h.elim
theorem KvT.nmem : ∀ {ks : List (D × W)} {vs : List (List (Option L2.Key) × Addr × Value)} {k : D}, KvT F ms vs ks → isTp k = true → isKy k = true → getK ks k = none → ∀ p ∈ vs, p.1 ≠ tpK k
  | [], [], _, _, _, _, _, p, hp => by cases hp
  | q :: ks, p :: vs, k, ⟨⟨h1, h2, h5, _⟩, t⟩, hk, hk2, hn, r, hr => by
    by_cases e : q.1 = k
    · rw [getK, if_pos e] at hn; cases hn
    · rw [getK, if_neg e] at hn
      rcases List.mem_cons.mp hr with rfl | hr
      · exact fun z => e (tpK_inj h1 hk h2 hk2 (by rw [← h5, z]))
      · exact KvT.nmem t hk hk2 hn r hr
  | [], _ :: _, _, h, _, _, _, _, _ => h.elim
  | _ :: _, [], _, h, _, _, _, _, _ => h.elim
theorem KvA.snoc {k : D} {w : W} {u : Value} {v : V} (hk : isAt k = true) (r : RelV v u) (p : Rp F ms v w) : ∀ {ks : List (D × W)} {vs : List (Option L2.Key × Value)}, KvA F ms vs ks → KvA F ms (vs ++ [(atK k, u)]) (ks ++ [(k, w)])
  | [], [], _ => ⟨⟨hk, rfl, v, r, p⟩, trivial⟩
  | _ :: _, _ :: _, h => ⟨h.1, KvA.snoc hk r p h.2⟩
  | [], _ :: _, h => h.elim
  | _ :: _, [], h => h.elim
theorem KvT.snoc {k : D} {w : W} {u : Value} {v : V} {b : Addr} (hk : isTp k = true) (hk2 : isKy k = true) (hb : Rep F (.ref b) k) (r : RelV v u) (p : Rp F ms v w) : ∀ {ks : List (D × W)} {vs : List (List (Option L2.Key) × Addr × Value)}, KvT F ms vs ks → KvT F ms (vs ++ [(tpK k, b, u)]) (ks ++ [(k, w)])
  | [], [], _ => ⟨⟨hk, hk2, rfl, hb, v, r, p⟩, trivial⟩
  | _ :: _, _ :: _, h => ⟨h.1, KvT.snoc hk hk2 hb r p h.2⟩
  | [], _ :: _, h => h.elim
  | _ :: _, [], h => h.elim
/-- the keys rise nowhere twice: a replaced item is the one -/
theorem repl_once {α β : Type} [DecidableEq α] {k : α} {f : α × β → α × β} : ∀ {l : List (α × β)}, (∀ p ∈ l, p.1 ≠ k) → l.map (fun p => if p.1 = k then f p else p) = l
  | [], _ => rfl
  | p :: l, h => by
    rw [List.map_cons, if_neg (h p List.mem_cons_self), repl_once fun q hq => h q (List.mem_cons_of_mem _ hq)]
theorem KvA.rep {k : D} {w : W} {u : Value} {v : V} (hk : isAt k = true) (r : RelV v u) (p : Rp F ms v w) : ∀ {ks : List (D × W)} {vs : List (Option L2.Key × Value)}, KvA F ms vs ks → (vs.map (·.1)).Nodup → KvA F ms (vs.map fun q => if q.1 = atK k then (q.1, u) else q) (repK ks k w)
  | [], [], _, _ => trivial
  | q :: ks, x :: vs, ⟨⟨h1, h2, h3⟩, t⟩, nd => by
    rw [List.map_cons, List.nodup_cons] at nd
    by_cases e : q.1 = k
    · have e2 : x.1 = atK k := by rw [h2, e]
      have e3 : vs.map (fun q => if q.1 = atK k then (q.1, u) else q) = vs := repl_once (f := fun q => (q.1, u)) fun y hy z => nd.1 (by rw [e2, ← z]; exact List.mem_map.mpr ⟨y, hy, rfl⟩)
      rw [repK, if_pos e, List.map_cons, if_pos e2, e3]
      exact ⟨⟨h1, h2, v, r, p⟩, t⟩
    · have e2 : ¬ x.1 = atK k := fun z => e (atK_inj h1 hk (by rw [← h2, z]))
      rw [repK, if_neg e, List.map_cons, if_neg e2]
      exact ⟨⟨h1, h2, h3⟩, KvA.rep hk r p t nd.2⟩
  | [], _ :: _, h, _ => h.elim
  | _ :: _, [], h, _ => h.elim
theorem KvT.rep {k : D} {w : W} {u : Value} {v : V} (hk : isTp k = true) (hk2 : isKy k = true) (r : RelV v u) (p : Rp F ms v w) : ∀ {ks : List (D × W)} {vs : List (List (Option L2.Key) × Addr × Value)}, KvT F ms vs ks → (vs.map (·.1)).Nodup → KvT F ms (vs.map (putAt (tpK k) u)) (repK ks k w)
  | [], [], _, _ => trivial
  | q :: ks, x :: vs, ⟨⟨h1, h2, h3, h4, h5⟩, t⟩, nd => by
    rw [List.map_cons, List.nodup_cons] at nd
    by_cases e : q.1 = k
    · have e2 : x.1 = tpK k := by rw [h3, e]
      have e3 : vs.map (putAt (tpK k) u) = vs := map_putAt_of_not_mem vs _ u fun z => nd.1 (by rw [e2]; exact z)
      rw [repK, if_pos e, List.map_cons, e3]
      unfold putAt
      rw [if_pos e2]
      exact ⟨⟨h1, h2, h3, h4, v, r, p⟩, t⟩
    · have e2 : ¬ x.1 = tpK k := fun z => e (tpK_inj h1 hk h2 hk2 (by rw [← h3, z]))
      rw [repK, if_neg e, List.map_cons]
      have e3 : putAt (tpK k) u x = x := by unfold putAt; rw [if_neg e2]
      rw [e3]
      exact ⟨⟨h1, h2, h3, h4, h5⟩, KvT.rep hk hk2 r p t nd.2⟩
  | [], _ :: _, h, _ => h.elim
  | _ :: _, [], h, _ => h.elim
theorem KvA.put {k : D} {w : W} {u : Value} {v : V} {ks : List (D × W)} {vs : List (Option L2.Key × Value)} (hk : isAt k = true) (r : RelV v u) (p : Rp F ms v w) (h : KvA F ms vs ks) (nd : (vs.map (·.1)).Nodup) : KvA F ms (stored vs (atK k) u) (putK ks k w) := by
  have hg := h.get hk
  have any_val : ∀ (l : List (Option L2.Key × Value)) (x : Option L2.Key), (l.any fun kv => decide (kv.1 = x)) = (valueAt l x).isSome := by
    intro l x
    induction l with
    | nil => rfl
    | cons y l ih =>
      by_cases e : y.1 = x
      · simp [valueAt, List.find?_cons, e]
      · have e4 : valueAt (y :: l) x = valueAt l x := by simp [valueAt, List.find?_cons, e]
        rw [List.any_cons, decide_eq_false e, Bool.false_or, e4]
        exact ih
  unfold stored putK
  cases q : getK ks k with
  | none =>
    rw [q] at hg
    rw [if_neg (by rw [any_val, hg]; simp)]
    exact h.snoc hk r p
  | some z =>
    rw [q] at hg
    obtain ⟨u0, v0, e, _⟩ := hg
    rw [if_pos (by rw [any_val, e]; rfl)]
    exact h.rep hk r p nd
theorem KvT.put {k : D} {w : W} {u : Value} {v : V} {b : Addr} {ks : List (D × W)} {vs : List (List (Option L2.Key) × Addr × Value)} (hk : isTp k = true) (hk2 : isKy k = true) (hb : Rep F (.ref b) k) (r : RelV v u) (p : Rp F ms v w) (h : KvT F ms vs ks) (nd : (vs.map (·.1)).Nodup) : KvT F ms (storedH vs (tpK k) b u) (putK ks k w) := by
  have hg := h.get hk hk2
  unfold storedH putK
  cases q : getK ks k with
  | none =>
    rw [q] at hg
    rw [if_neg (by rw [hg]; simp)]
    exact h.snoc hk hk2 hb r p
  | some z =>
    rw [q] at hg
    obtain ⟨p0, v0, e, _⟩ := hg
    rw [if_pos (by rw [e]; rfl)]
    exact h.rep hk hk2 r p nd
end
theorem putK_len {ks : List (D × W)} {k : D} {w : W} : (putK ks k w).length ≤ ks.length + 1 := by
  have rl : ∀ ks : List (D × W), (repK ks k w).length = ks.length := by
    intro ks
    induction ks with
    | nil => rfl
    | cons q ks ih =>
      unfold repK
      split
      · rfl
      · simp [ih]
  unfold putK
  split
  · rw [rl]; omega
  · simp
/-! keys -/
theorem at_is {P : Program} {w : World} {F : Gh} {y : V} {k : D} {u : Value} (h : Rep F y k) (a : isAt k = true) (r : RelV y u) : (noneKind P w).is (atK k) u = true := by
  cases k <;> first | (cases a; done) | skip
  · cases (show y = V.non from h)
    cases (show u = Value.none from r)
    rfl
  · rename_i i
    cases (show y = V.int i from h)
    exact kV_is (P := P) (w := w) (k := Sum.inl i) r
  · rename_i z
    cases (show y = V.str (sx z) from h)
    exact kV_is (P := P) (w := w) (k := Sum.inr (sx z)) r
theorem at_items {P : Program} {w : World} {F : Gh} : ∀ {ds : List D} {vs : List V} {us : List Value}, RepL F vs ds → ds.all isAt = true → Vals vs us → ItemsAre (noneKind P w) (ds.map atK) us
  | [], vs, us, h, _, r => by
    unfold RepL at h
    subst h
    cases r
    exact .nil
  | d :: ds, vs, us, h, a, r => by
    unfold RepL at h
    obtain ⟨v, t, rfl, h1, h2⟩ := h
    simp only [List.all_cons, Bool.and_eq_true] at a
    cases r with
    | cons r1 r2 => exact .cons (at_is h1 a.1 r1) (at_items h2 a.2 r2)
section
variable {X : Cx} {pins : List (Addr × PySem.Obj)} {σ : L2.St} {H : Hp} {s : Shared} {F : Gh} {ms : List Addr} {st : Loc}
theorem tp_key (I : Inv X pins σ H s) (S : SRel F ms st H) {b : Addr} {k : D} (h : Rep F (.ref b) k) (t : isTp k = true) (hk : isKy k = true) : (tupleKind (noneKind X.prog X.w)).is s.heap (tpK k) b := by
  obtain ⟨ds, rfl⟩ := tp_of t
  have h' : ∃ a vs, V.ref b = .ref a ∧ F a = some (.tup vs) ∧ RepL F vs ds := by unfold Rep at h; exact h
  obtain ⟨a, vs, e, ha, hl⟩ := h'
  cases e
  obtain ⟨_, its, r, o, h1, h2, n, h3⟩ := (show ObjOk X.prog X.w H s.heap b (.tup vs) from rd_of I.hok (S.le _ _ ha))
  exact ⟨o, its.toArray, n, h1, h2, h3, (at_items hl hk r : ItemsAre (noneKind X.prog X.w) (ds.map atK) its)⟩
/-- the program and the world of the tables are the context's -/
structure PwOk (X : Cx) : Prop where
  p : X.prog = Tbs.P
  w : X.w = Tbs.w
/-- a dict of the store, in the heap -/
structure DcH (X : Cx) (s : Shared) (F : Gh) (ms : List Addr) (H : Hp) (a : Addr) (ver : Nat) (ks : List (D × W)) (o : PySem.Obj) : Prop where
  at_ : s.heap.get? a = some o
  sys : (a == sysModules) = false
  len : ks.length ≤ 16777216
  ob : F.ob a ver = some o
  nx : ∀ m, ver < m → F.ob a m = none
  hH : H a = some (obE a o)
  hF : F a = none
  dc : (∃ vs, DcA X.prog X.w o vs ∧ KvA F ms vs ks) ∨ ∃ xs, DcT X.prog X.w o xs ∧ KvT F ms xs ks
theorem dc_at (C : PwOk X) (I : Inv X pins σ H s) (S : SRel F ms st H) {n ver : Nat} {a : Addr} {ks : List (D × W)} (e : ms[n]? = some a) (q : st[n]? = some (.dct ver ks)) : ∃ o, DcH X s F ms H a ver ks o := by
  obtain ⟨hF, o, ⟨h1, h2, h3, h4, _⟩, hH, dc⟩ := S.at_ n a _ e q
  have hg : s.heap.get? a = some o := (show ObjOk X.prog X.w H s.heap a (obE a o) from I.hok a _ hH).1
  refine ⟨o, hg, h3, h4, h1, h2, hH, hF, ?_⟩
  unfold DcO at dc
  rw [← C.p, ← C.w] at dc
  exact dc
theorem DcA.of {P : Program} {w : World} {h : Heap} {a : Addr} {o : PySem.Obj} {vs : List (Option L2.Key × Value)} (e : h.get? a = some o) (d : DcA P w o vs) : h.DictOf (noneKind P w) a vs := by
  obtain ⟨x, es, ep, h1, h2, h3, h4⟩ := d
  exact ⟨o, es, ep, e, x, h1, h2, h3, h4⟩
theorem DcA.back {P : Program} {w : World} {h : Heap} {a : Addr} {vs : List (Option L2.Key × Value)} (d : h.DictOf (noneKind P w) a vs) : ∃ o, h.get? a = some o ∧ DcA P w o vs := by
  obtain ⟨o, es, ep, e, x, h1, h2, h3, h4⟩ := d
  exact ⟨o, e, x, es, ep, h1, h2, h3, h4⟩
theorem DcT.back {P : Program} {w : World} {h : Heap} {a : Addr} {xs : List (List (Option L2.Key) × Addr × Value)} (d : h.DictOfH (tupleKind (noneKind P w)) a xs) : ∃ o, h.get? a = some o ∧ DcT P w o xs := by
  obtain ⟨o, es, ep, e, x, h1, h2, h3, h4⟩ := d
  exact ⟨o, e, x, es, ep, h1, h2, h4⟩
theorem DcT.of (I : Inv X pins σ H s) (S : SRel F ms st H) {a : Addr} {o : PySem.Obj} {xs : List (List (Option L2.Key) × Addr × Value)} {ks : List (D × W)} (e : s.heap.get? a = some o) (d : DcT X.prog X.w o xs) (r : KvT F ms xs ks) : s.heap.DictOfH (tupleKind (noneKind X.prog X.w)) a xs := by
  obtain ⟨x, es, ep, h1, h2, h3⟩ := d
  refine ⟨o, es, ep, e, x, h1, h2, ?_, h3⟩
  clear h2 h3
  have go : ∀ (ks : List (D × W)) (xs : List (List (Option L2.Key) × Addr × Value)), KvT F ms xs ks → ∀ x ∈ xs, (tupleKind (noneKind X.prog X.w)).is s.heap x.1 x.2.1 := by
    intro ks
    induction ks with
    | nil => intro xs h x hx; cases xs with
      | nil => cases hx
      | cons _ _ => exact h.elim
    | cons q ks ih =>
      intro xs h x hx
      cases xs with
      | nil => exact h.elim
      | cons p xs =>
        obtain ⟨⟨g1, g2, g3, g4, _⟩, t⟩ := h
        rcases List.mem_cons.mp hx with rfl | hx
        · rw [g3]; exact tp_key I S g4 g1 g2
        · exact ih xs t x hx
  exact go ks xs r
/-- an empty dict is of either kind -/
theorem dc_atoms {P : Program} {w : World} {o : PySem.Obj} {ks : List (D × W)} {k : D} (h : (∃ vs, DcA P w o vs ∧ KvA F ms vs ks) ∨ ∃ xs, DcT P w o xs ∧ KvT F ms xs ks) (hk : kyOk ks k = true) (t : isTp k = false) : isAt k = true ∧ ∃ vs, DcA P w o vs ∧ KvA F ms vs ks := by
  obtain ⟨h1, h2⟩ := Bool.and_eq_true_iff.mp hk
  refine ⟨ky_at t h1, ?_⟩
  rcases h with h | ⟨xs, d, r⟩
  · exact h
  · cases ks with
    | nil =>
      cases xs with
      | cons _ _ => exact r.elim
      | nil =>
        obtain ⟨x, es, ep, e1, e2, _⟩ := d
        have e3 : es = #[] := by
          apply Array.toList_inj.mp
          simpa using e2
        subst e3
        exact ⟨[], ⟨x, #[], ep, e1, (fun e he => by simp at he), .nil, List.nodup_nil⟩, trivial⟩
    | cons q ks =>
      cases xs with
      | nil => exact r.elim
      | cons p xs =>
        obtain ⟨⟨g1, _⟩, _⟩ := r
        have h3 : (isTp q.1 == isTp k) = true := h2
        rw [g1, t] at h3
        cases h3
theorem dc_tups {P : Program} {w : World} {o : PySem.Obj} {ks : List (D × W)} {k : D} (h : (∃ vs, DcA P w o vs ∧ KvA F ms vs ks) ∨ ∃ xs, DcT P w o xs ∧ KvT F ms xs ks) (hk : kyOk ks k = true) (t : isTp k = true) : isKy k = true ∧ ∃ xs, DcT P w o xs ∧ KvT F ms xs ks := by
  obtain ⟨h1, h2⟩ := Bool.and_eq_true_iff.mp hk
  refine ⟨h1, ?_⟩
  rcases h with ⟨vs, d, r⟩ | h
  · cases ks with
    | nil =>
      cases vs with
      | cons _ _ => exact r.elim
      | nil =>
        obtain ⟨x, es, ep, e1, _, e2, _⟩ := d
        have e3 : es = #[] := by
          apply Array.toList_inj.mp
          generalize es.toList = l at e2
          cases e2
          rfl
        subst e3
        exact ⟨[], ⟨x, #[], ep, e1, rfl, List.nodup_nil⟩, trivial⟩
    | cons q ks =>
      cases vs with
      | nil => exact r.elim
      | cons p xs =>
        obtain ⟨⟨g1, _⟩, _⟩ := r
        have h3 : (isTp q.1 == isTp k) = true := h2
        have g2 : isTp q.1 = false := by cases hq : q.1 <;> rw [hq] at g1 <;> first | rfl | cases g1
        rw [g2, t] at h3
        cases h3
  · exact h
/-- what a dict holds at a key -/
def Gets (F : Gh) (ms : List Addr) (ks : List (D × W)) (k : D) (o : Option Value) : Prop := match getK ks k with
  | none => o = none
  | some w => ∃ u v, o = some u ∧ RelV v u ∧ Rp F ms v w
theorem Gets.some_ {ks : List (D × W)} {k : D} {o : Option Value} (g : Gets F ms ks k o) : (getK ks k).isSome = o.isSome := by
  unfold Gets at g
  cases q : getK ks k with
  | none => rw [q] at g; cases g; rfl
  | some w => rw [q] at g; obtain ⟨u, v, rfl, _⟩ := g; rfl
variable {n ver : Nat} {a : Addr} {ks : List (D × W)} {o : PySem.Obj} {k : D} {y : V} {u : Value} {A : Around} {E : Value → Shared → Prop}
/-- both kinds at once -/
theorem DcH.key (D0 : DcH X s F ms H a ver ks o) (I : Inv X pins σ H s) (S : SRel F ms st H) (hk : kyOk ks k = true) (hy : Rep F y k) (ry : RelV y u) :
    (isAt k = true ∧ isTp k = false ∧ ∃ vs, s.heap.DictOf (noneKind X.prog X.w) a vs ∧ DcA X.prog X.w o vs ∧ KvA F ms vs ks ∧ (noneKind X.prog X.w).is (atK k) u = true ∧ Gets F ms ks k (valueAt vs (atK k))) ∨
    (isTp k = true ∧ isKy k = true ∧ ∃ xs b, u = .ref b ∧ y = .ref b ∧ s.heap.DictOfH (tupleKind (noneKind X.prog X.w)) a xs ∧ DcT X.prog X.w o xs ∧ KvT F ms xs ks ∧ (tupleKind (noneKind X.prog X.w)).is s.heap (tpK k) b ∧ Gets F ms ks k ((atKey xs (tpK k)).map (·.2))) := by
  cases t : isTp k with
  | false =>
    obtain ⟨h1, vs, d, r⟩ := dc_atoms D0.dc hk t
    refine .inl ⟨h1, rfl, vs, DcA.of D0.at_ d, d, r, at_is hy h1 ry, ?_⟩
    have g := r.get h1
    unfold Gets
    cases q : getK ks k with
    | none => rw [q] at g; exact g
    | some w => rw [q] at g; exact g
  | true =>
    obtain ⟨h1, xs, d, r⟩ := dc_tups D0.dc hk t
    obtain ⟨ds, ek⟩ := tp_of t
    have h' : ∃ a vs, y = .ref a ∧ F a = some (.tup vs) ∧ RepL F vs ds := by rw [ek] at hy; unfold Rep at hy; exact hy
    obtain ⟨b, vs, rfl, hb, hl⟩ := h'
    cases ry
    refine .inr ⟨rfl, h1, xs, b, rfl, rfl, DcT.of I S D0.at_ d r, d, r, tp_key I S hy t h1, ?_⟩
    have g := r.get t h1
    unfold Gets
    cases q : getK ks k with
    | none =>
      rw [q] at g
      dsimp only at g ⊢
      rw [g]
      rfl
    | some w =>
      rw [q] at g
      obtain ⟨p, v, e1, e2, e3⟩ := g
      exact ⟨p.2, v, by rw [e1]; rfl, e2, e3⟩
theorem DcH.typ (D0 : DcH X s F ms H a ver ks o) : s.TypeIs (.ref a) "dict" ∧ ∀ b, Value.ref a = .ref b → ∃ ob, s.heap.get? b = some ob ∧ ob.dict = none := by
  have x : o.ExactDict := by
    rcases D0.dc with ⟨_, ⟨x, _⟩, _⟩ | ⟨_, ⟨x, _⟩, _⟩ <;> exact x
  refine ⟨⟨o, D0.at_, x.1⟩, fun b e => ?_⟩
  cases e
  exact ⟨o, D0.at_, x.2.1⟩
/-- d[y] -/
theorem dx_getItem {w : W} {Q : Value → Shared → Prop} (hu : A.units + 1 < cLine) (I : Inv X pins σ H s) (S : SRel F ms st H) (D0 : DcH X s F ms H a ver ks o) (hk : kyOk ks k = true) (hy : Rep F y k) (ry : RelV y u) (hg : getK ks k = some w)
    (h : ∀ w' v s', Inv X pins σ H s' → RelV v w' → Rp F ms v w → Q w' s') : wpAny (model X.prog X.w) A (getItem (.ref a) u) Q E s := by
  rcases D0.key I S hk hy ry with ⟨_, _, vs, dd, _, _, hi, g⟩ | ⟨_, _, xs, b, rfl, _, dd, _, _, hi, g⟩
  · unfold Gets at g
    rw [hg] at g
    obtain ⟨u', v, e, r, p⟩ := g
    exact wpAny_getItem_of hi dd.mapOf e (h u' v _ (I.tok _) r p)
  · unfold Gets at g
    rw [hg] at g
    obtain ⟨u', v, e, r, p⟩ := g
    obtain ⟨p0, hp, hp2⟩ := Option.map_eq_some_iff.mp e
    refine wpAny_getItem_heap (tupleKind_room_in1 hu) hi dd hp ?_
    rw [hp2]
    exact h u' v _ (I.tok _) r p
/-- y in d -/
theorem dx_in {Q : Value → Shared → Prop} (hu : A.units + 1 < cLine) (I : Inv X pins σ H s) (S : SRel F ms st H) (D0 : DcH X s F ms H a ver ks o) (hk : kyOk ks k = true) (hy : Rep F y k) (ry : RelV y u)
    (h : ∀ s', Inv X pins σ H s' → Q (.bool (getK ks k).isSome) s') : wpAny (model X.prog X.w) A (compareOp .In u (.ref a)) Q E s := by
  rcases D0.key I S hk hy ry with ⟨_, _, vs, dd, _, _, hi, g⟩ | ⟨_, _, xs, b, rfl, _, dd, _, _, hi, g⟩
  · refine wpAny_in_of hi D0.sys dd.mapOf ?_
    rw [← g.some_]
    exact h _ (I.tok _)
  · refine wpAny_in_heap (tupleKind_room_in1 hu) hi D0.sys dd ?_
    have e := g.some_
    rw [Option.isSome_map] at e
    rw [← e]
    exact h _ (I.tok _)
theorem dx_notIn {Q : Value → Shared → Prop} (hu : A.units + 1 < cLine) (I : Inv X pins σ H s) (S : SRel F ms st H) (D0 : DcH X s F ms H a ver ks o) (hk : kyOk ks k = true) (hy : Rep F y k) (ry : RelV y u)
    (h : ∀ s', Inv X pins σ H s' → Q (.bool (!(getK ks k).isSome)) s') : wpAny (model X.prog X.w) A (compareOp .NotIn u (.ref a)) Q E s := by
  rcases D0.key I S hk hy ry with ⟨_, _, vs, dd, _, _, hi, g⟩ | ⟨_, _, xs, b, rfl, _, dd, _, _, hi, g⟩
  · refine wpAny_notIn_of hi D0.sys dd.mapOf ?_
    rw [← g.some_]
    exact h _ (I.tok _)
  · refine wpAny_notIn_heap (tupleKind_room_in1 hu) hi D0.sys dd ?_
    have e := g.some_
    rw [Option.isSome_map] at e
    rw [← e]
    exact h _ (I.tok _)
/-- d.get(y), d.get(y, x) -/
theorem dx_get1 {Q : Value → Shared → Prop} (hu : A.units + 1 < cLine) (I : Inv X pins σ H s) (S : SRel F ms st H) (D0 : DcH X s F ms H a ver ks o) (hk : kyOk ks k = true) (hy : Rep F y k) (ry : RelV y u)
    (h : ∀ w' v s', Inv X pins σ H s' → RelV v w' → Rp F ms v ((getK ks k).getD (.d .non)) → Q w' s') : wpAny (model X.prog X.w) A (PySem.call (.builtin "dict.get") [.ref a, u]) Q E s := by
  have fin : ∀ {ov : Option Value} {tk : Nat}, Gets F ms ks k ov → Q (ov.getD .none) { s with toks := tk } := by
    intro ov tk g
    unfold Gets at g
    cases q : getK ks k with
    | none =>
      rw [q] at g h
      cases g
      exact h _ .non _ (I.tok _) rfl rfl
    | some w =>
      rw [q] at g h
      obtain ⟨u', v, rfl, r, p⟩ := g
      exact h _ v _ (I.tok _) r p
  rcases D0.key I S hk hy ry with ⟨_, _, vs, dd, _, _, hi, g⟩ | ⟨_, _, xs, b, rfl, _, dd, _, _, hi, g⟩
  · exact call_meetsIn PySem.F.slot_dict_get dd.typeIs PySem.F.entry_dict_get (PySem.F.args_dict_get_2 _ _) (meets_dict_get (noneKind X.prog X.w) a hi D0.sys) ⟨_, dd.mapOf, fin g⟩
  · exact call_meetsIn PySem.F.slot_dict_get dd.typeIs PySem.F.entry_dict_get (PySem.F.args_dict_get_2 _ _) (meetsH_dict_get (tupleKind (noneKind X.prog X.w)) a b D0.sys) ⟨tupleKind_room_in1 hu, _, xs, hi, dd, fin g⟩
theorem dx_get2 {x : V} {r : Value} {w : W} {Q : Value → Shared → Prop} (hu : A.units + 1 < cLine) (I : Inv X pins σ H s) (S : SRel F ms st H) (D0 : DcH X s F ms H a ver ks o) (hk : kyOk ks k = true) (hy : Rep F y k) (ry : RelV y u) (rx : RelV x r) (px : Rp F ms x w)
    (h : ∀ w' v s', Inv X pins σ H s' → RelV v w' → Rp F ms v ((getK ks k).getD w) → Q w' s') : wpAny (model X.prog X.w) A (PySem.call (.builtin "dict.get") [.ref a, u, r]) Q E s := by
  have fin : ∀ {ov : Option Value} {tk : Nat}, Gets F ms ks k ov → Q (ov.getD r) { s with toks := tk } := by
    intro ov tk g
    unfold Gets at g
    cases q : getK ks k with
    | none =>
      rw [q] at g h
      cases g
      exact h _ x _ (I.tok _) rx px
    | some w =>
      rw [q] at g h
      obtain ⟨u', v, rfl, r, p⟩ := g
      exact h _ v _ (I.tok _) r p
  rcases D0.key I S hk hy ry with ⟨_, _, vs, dd, _, _, hi, g⟩ | ⟨_, _, xs, b, rfl, _, dd, _, _, hi, g⟩
  · exact call_meetsIn PySem.F.slot_dict_get dd.typeIs PySem.F.entry_dict_get (PySem.F.args_dict_get_3 _ _ _) (meets_dict_get_default (noneKind X.prog X.w) a hi D0.sys r) ⟨_, dd.mapOf, fin g⟩
  · exact call_meetsIn PySem.F.slot_dict_get dd.typeIs PySem.F.entry_dict_get (PySem.F.args_dict_get_3 _ _ _) (meetsH_dict_get_default (tupleKind (noneKind X.prog X.w)) a b D0.sys r) ⟨tupleKind_room_in1 hu, _, xs, hi, dd, fin g⟩
/-- the dict's object is another one -/
theorem dx_write {h' : Heap} {t' : Nat} {o' : PySem.Obj} (I : Inv X pins σ H s) (D0 : DcH X s F ms H a ver ks o) (hs : Heap.SameBut a s.heap h') (he : h'.get? a = some o') : Inv X pins σ (upd H a (obE a o')) { s with heap := h', toks := t' } :=
  d_write I (by rw [D0.hH]; exact True.intro) hs ⟨o', he⟩ ⟨he, ⟨o', he⟩, fun h1 h2 g k => k _ g⟩
/-- .. as the store tells it -/
theorem dx_store {ks' : List (D × W)} {h' : Heap} {o' : PySem.Obj} (C : PwOk X) (S : SRel F ms st H) (D0 : DcH X s F ms H a ver ks o) (e : ms[n]? = some a) (he : h'.get? a = some o') (hl : ks'.length ≤ 16777216) (dc : (∃ vs, DcA X.prog X.w o' vs ∧ KvA F ms vs ks') ∨ ∃ xs, DcT X.prog X.w o' xs ∧ KvT F ms xs ks') :
    ∃ F', Stp F ms H F' ms (upd H a (obE a o')) ∧ SRel F' ms (st.set n (.dct (ver + 1) ks')) (upd H a (obE a o')) := by
  have hd : ∀ vs, o.data ≠ .fields vs := fun vs hv => by
    rcases D0.dc with ⟨_, ⟨_, _, _, hd, _⟩, _⟩ | ⟨_, ⟨_, _, _, hd, _⟩, _⟩
    · rw [hv] at hd; cases hd
    · rw [hv] at hd; cases hd
  have hx : ∃ h : Heap, h.get? a = some o := ⟨s.heap, D0.at_⟩
  let g : Addr → Nat → Option PySem.Obj := fun b m => if b = a ∧ m = ver + 1 then some o' else F.ob b m
  have sb : ∀ b u, F b = some u → (⟨F.hp, g⟩ : Gh) b = some u := fun _ _ h => h
  refine ⟨⟨F.hp, g⟩, Stp.writeG (List.mem_of_getElem? e) fun b m u hb => ?_, SRel.writeG S e D0.hF D0.hH ?_ (fun b hb => ?_) rfl (fun _ => obE_code hx hd) rfl⟩
  · show (if b = a ∧ m = ver + 1 then some o' else F.ob b m) = some u
    rw [if_neg, hb]
    rintro ⟨rfl, rfl⟩
    rw [D0.nx _ (Nat.lt_succ_self _)] at hb
    cases hb
  · refine ⟨D0.hF, o', ⟨if_pos ⟨rfl, rfl⟩, fun m hm => ?_, D0.sys, hl, h', he⟩, upd_same, ?_⟩
    · show (if a = a ∧ m = ver + 1 then some o' else F.ob a m) = none
      rw [if_neg (by rintro ⟨_, rfl⟩; omega)]
      exact D0.nx m (by omega)
    · rw [C.p, C.w] at dc
      exact DcO.mono (F := F) (F1 := ⟨F.hp, g⟩) sb (List.prefix_refl _) dc
  · funext m
    show (if b = a ∧ m = ver + 1 then some o' else F.ob b m) = F.ob b m
    rw [if_neg (fun z => hb z.1)]
/-- d[y] = x -/
theorem dx_setItem {x : V} {r : Value} {w : W} {Q : Unit → Shared → Prop} (C : PwOk X) (hu : A.units + 1 < cLine) (I : Inv X pins σ H s) (S : SRel F ms st H) (e : ms[n]? = some a) (D0 : DcH X s F ms H a ver ks o) (hk : kyOk ks k = true) (hl : ks.length < 16777216) (hy : Rep F y k) (ry : RelV y u) (rx : RelV x r) (px : Rp F ms x w)
    (h : ∀ s' F' H', Inv X pins σ H' s' → Stp F ms H F' ms H' → SRel F' ms (st.set n (.dct (ver + 1) (putK ks k w))) H' → Q () s') : wpAny (model X.prog X.w) A (setItem (.ref a) u r) Q E s := by
  have hl' : (putK ks k w).length ≤ 16777216 := by have := putK_len (ks := ks) (k := k) (w := w); omega
  rcases D0.key I S hk hy ry with ⟨ha, _, vs, dd, dA, kv, hi, _⟩ | ⟨ht, hky, xs, b, rfl, rfl, dd, dT, kv, hi, _⟩
  · have nd : (vs.map (·.1)).Nodup := by obtain ⟨_, _, _, _, _, _, z⟩ := dA; exact z
    refine wpAny_setItem_pairs (hsz := by rw [kv.len, sizeLine_eq]; omega) hi dd fun h' dd' hs => ?_
    obtain ⟨o', he, dA'⟩ := DcA.back dd'
    obtain ⟨F', t, S'⟩ := dx_store C S D0 e he hl' (.inl ⟨_, dA', kv.put ha rx px nd⟩)
    exact h _ F' _ (dx_write I D0 hs he) t S'
  · have nd : (xs.map (·.1)).Nodup := by obtain ⟨_, _, _, _, _, z⟩ := dT; exact z
    refine wpAny_setItem_heap (hsz := by rw [kv.len, sizeLine_eq]; omega) (tupleKind_room_in1 hu) hi dd fun h' dd' hs => ?_
    obtain ⟨o', he, dT'⟩ := DcT.back dd'
    obtain ⟨F', t, S'⟩ := dx_store C S D0 e he hl' (.inr ⟨_, dT', kv.put ht hky hy rx px nd⟩)
    exact h _ F' _ (dx_write I D0 hs he) t S'
/-- a new dict -/
theorem dx_new {o' : PySem.Obj} {ks' : List (D × W)} {p : Addr} {h' : Heap} (C : PwOk X) (S : SRel F ms st H) (hp : H p = none) (he : h'.get? p = some o') (hs : (p == sysModules) = false) (hl : ks'.length ≤ 16777216) (dc : (∃ vs, DcA X.prog X.w o' vs ∧ KvA F ms vs ks') ∨ ∃ xs, DcT X.prog X.w o' xs ∧ KvT F ms xs ks') :
    ∃ F', Stp F ms H F' (ms ++ [p]) (upd H p (obE p o')) ∧ SRel F' (ms ++ [p]) (st ++ [.dct 0 ks']) (upd H p (obE p o')) := by
  let g : Addr → Nat → Option PySem.Obj := fun b m => if b = p ∧ m = 0 then some o' else F.ob b m
  have sb : ∀ b u, F b = some u → (⟨F.hp, g⟩ : Gh) b = some u := fun _ _ h => h
  refine ⟨⟨F.hp, g⟩, Stp.makeG hp fun b m u hb => ?_, SRel.makeG S hp ?_ (fun b hb => ?_) rfl⟩
  · show (if b = p ∧ m = 0 then some o' else F.ob b m) = some u
    rw [if_neg, hb]
    rintro ⟨rfl, rfl⟩
    rw [S.obN hp] at hb
    cases hb
  · refine ⟨S.notF hp, o', ⟨if_pos ⟨rfl, rfl⟩, fun m hm => ?_, hs, hl, h', he⟩, upd_same, ?_⟩
    · show (if p = p ∧ m = 0 then some o' else F.ob p m) = none
      rw [if_neg (by rintro ⟨_, rfl⟩; omega)]
      exact S.obN hp m
    · rw [C.p, C.w] at dc
      exact DcO.mono (F := F) (F1 := ⟨F.hp, g⟩) sb (List.prefix_append _ _) dc
  · funext m
    show (if b = p ∧ m = 0 then some o' else F.ob b m) = F.ob b m
    rw [if_neg (fun z => hb z.1)]
end
end Vx

set_option maxHeartbeats 4000000
/-! ### operations -/
namespace Vx
open PySem PySem.Spec PyProof.Rows L2
variable [tb : Tbs] [sp : Spv]

theorem sx_append (a b : Tx) : sx a ++ sx b = sx (a ++ b) := TL.ext_tl (by rw [TL.tl_append])
theorem sx_inj {a b : Tx} (h : sx a = sx b) : a = b := congrArg TL.tl h
theorem line_eq : (sizeLine : Nat) = 16777216 := by decide

/-! list + list, wherever they are read -/
theorem op_catR {X : Cx} : OpR X (binaryOp .Add) (fun x y H Q => ∃ l b xs zs, x = .ref l ∧ y = .ref b ∧ SqL X.K H l xs ∧ SqL X.K H b zs ∧ xs.length + zs.length ≤ sizeLine ∧ ∀ p, H p = none → Q (.ref p) (upd H p (.lst (xs ++ zs)))) := by
  intro pins s σ H x y v u Q I rx ry h
  obtain ⟨l, b, xs, zs, rfl, rfl, hH, hB, hz, q⟩ := h
  cases rx
  cases ry
  obtain ⟨its, r, hl, z⟩ := I.list hH
  obtain ⟨its2, r2, hl2, z2⟩ := I.list hB
  obtain ⟨⟨cls, dd, data, sl⟩, n, ho, hc, hdd, hd⟩ := id hl
  obtain ⟨⟨cls2, dd2, data2, sl2⟩, n2, ho2, hc2, hdd2, hd2⟩ := id hl2
  simp only at hc hd hdd hc2 hd2 hdd2
  subst hc hd hdd hc2 hd2 hdd2
  have e : its.toArray ++ its2.toArray = (its ++ its2).toArray := by simp
  refine concat_meets ⟨_, ho, rfl⟩ ⟨_, ho2, rfl⟩ noFill_list_add seq_list_add PySem.F.slot_list_add PySem.F.entry_list_add (PySem.F.args_list_add_2 _ _) (list_addW l b its.toArray its2.toArray n n2 none none sl sl2 (by have := r.length; have := r2.length; simp; omega)) ⟨ho, ho2, ?_⟩
  rw [e]
  exact ⟨.ref _, _, I.lnew (t' := s.toks) (r.append r2) (by rw [List.length_append]; omega), rfl, q _ I.fresh⟩

/-! == of data -/
mutual
def toPy : D → PyData
  | .non => .none
  | .bl b => .bool b
  | .int i => .int i
  | .str s => .str (sx s)
  | .tup ds => .tuple (toPyL ds)
  | .lst ds => .list (toPyL ds)
  | .dct _ => .none
  | .ins _ _ => .none
def toPyL : List D → List PyData
  | [] => []
  | d :: ds => toPy d :: toPyL ds
end
mutual
theorem py_plain : ∀ d : D, (toPy d).plain = true
  | .non => rfl
  | .bl _ => rfl
  | .int _ => rfl
  | .str _ => rfl
  | .tup ds => by simp only [toPy, PyData.plain]; exact py_plainL ds
  | .lst ds => by simp only [toPy, PyData.plain]; exact py_plainL ds
  | .dct _ => rfl
  | .ins _ _ => rfl
theorem py_plainL : ∀ ds : List D, PyData.plainAll (toPyL ds) = true
  | [] => rfl
  | d :: ds => by simp only [toPyL, PyData.plainAll, py_plain d, py_plainL ds, Bool.and_self]
end
mutual
theorem py_depth : ∀ (n : Nat) (d : D), okD n d = true → (toPy d).depth ≤ n + 1
  | n, .non, _ => by simp [toPy, PyData.depth]
  | n, .bl _, _ => by simp [toPy, PyData.depth]
  | n, .int _, _ => by simp [toPy, PyData.depth]
  | n, .str _, _ => by simp [toPy, PyData.depth]
  | 0, .tup _, h => by simp [okD] at h
  | 0, .lst _, h => by simp [okD] at h
  | n + 1, .tup ds, h => by
    have := py_depthL n ds (by simpa [okD] using h)
    simp only [toPy, PyData.depth]; omega
  | n + 1, .lst ds, h => by
    have := py_depthL n ds (by simpa [okD] using h)
    simp only [toPy, PyData.depth]; omega
  | n, .dct _, h => by cases n <;> simp [okD] at h
  | n, .ins _ _, h => by cases n <;> simp [okD] at h
theorem py_depthL : ∀ (n : Nat) (ds : List D), okL n ds = true → PyData.depthAll (toPyL ds) ≤ n + 1
  | n, [], _ => by simp [toPyL, PyData.depthAll]
  | n, d :: ds, h => by
    have h' : okD n d = true ∧ okL n ds = true := by simpa [okL] using h
    have h1 := py_depth n d h'.1
    have h2 := py_depthL n ds h'.2
    simp only [toPyL, PyData.depthAll]; omega
end
theorem sx_beq (x y : Tx) : (sx x == sx y) = (x == y) := by
  rw [Bool.eq_iff_iff]
  simp only [beq_iff_eq]
  exact ⟨sx_inj, fun h => by rw [h]⟩
mutual
theorem py_eqv : ∀ (n m : Nat) (d e : D), okD n d = true → okD m e = true → PyData.eqv (toPy d) (toPy e) = eqD d e
  | n, m, .non, e, _, h => by cases e <;> first | rfl | (cases m <;> simp [okD] at h)
  | n, m, .bl b, e, _, h => by cases e <;> first | rfl | (cases m <;> simp [okD] at h)
  | n, m, .int b, e, _, h => by cases e <;> first | rfl | (cases m <;> simp [okD] at h)
  | n, m, .str b, e, _, h => by
    cases e <;> first | rfl | (cases m <;> simp [okD] at h; done) | skip
    simp only [toPy, PyData.eqv, eqD]
    exact sx_beq _ _
  | 0, m, .tup _, _, h, _ => by simp [okD] at h
  | 0, m, .lst _, _, h, _ => by simp [okD] at h
  | n + 1, m, .tup ds, e, h, h' => by
    cases e with
    | tup es =>
      cases m with
      | zero => simp [okD] at h'
      | succ m => simp only [toPy, PyData.eqv, eqD]; exact py_eqvL n m ds es (by simpa [okD] using h) (by simpa [okD] using h')
    | _ => first | rfl | (cases m <;> simp [okD] at h')
  | n + 1, m, .lst ds, e, h, h' => by
    cases e with
    | lst es =>
      cases m with
      | zero => simp [okD] at h'
      | succ m => simp only [toPy, PyData.eqv, eqD]; exact py_eqvL n m ds es (by simpa [okD] using h) (by simpa [okD] using h')
    | _ => first | rfl | (cases m <;> simp [okD] at h')
  | n, m, .dct _, _, h, _ => by cases n <;> simp [okD] at h
  | n, m, .ins _ _, _, h, _ => by cases n <;> simp [okD] at h
theorem py_eqvL : ∀ (n m : Nat) (ds es : List D), okL n ds = true → okL m es = true → PyData.eqvAll (toPyL ds) (toPyL es) = eqL ds es
  | n, m, [], [], _, _ => rfl
  | n, m, [], _ :: _, _, _ => rfl
  | n, m, _ :: _, [], _, _ => rfl
  | n, m, d :: ds, e :: es, h, h' => by
    have h1 : okD n d = true ∧ okL n ds = true := by simpa [okL] using h
    have h2 : okD m e = true ∧ okL m es = true := by simpa [okL] using h'
    simp only [toPyL, PyData.eqvAll, eqL, py_eqv n m d e h1.1 h2.1, py_eqvL n m ds es h1.2 h2.2]
end
section
variable {K : PySem.W.Frag} {F : Gh} {H : Hp}
mutual
theorem dp_rep (le : ∀ a o, F a = some o → Rd H a o) : ∀ (n : Nat) (d : D) (v : V), okD n d = true → Rep F v d → Dp K H v (toPy d)
  | n, .non, _, _, h => by cases (show _ = V.non from h); exact .non
  | n, .bl b, _, _, h => by cases (show _ = V.bl b from h); exact .bl b
  | n, .int i, _, _, h => by cases (show _ = V.int i from h); exact .int i
  | n, .str s, _, _, h => by cases (show _ = V.str (sx s) from h); exact .str _
  | 0, .tup _, _, h, _ => by simp [okD] at h
  | 0, .lst _, _, h, _ => by simp [okD] at h
  | n + 1, .tup ds, v, h, r => by
    unfold Rep at r
    obtain ⟨a, vs, rfl, ha, hl⟩ := r
    exact .tup (.inl (le _ _ ha)) (dp_repL le n ds vs (by simpa [okD] using h) hl)
  | n + 1, .lst ds, v, h, r => by
    unfold Rep at r
    obtain ⟨a, vs, rfl, ha, hl⟩ := r
    exact .lst (.inl (le _ _ ha)) (dp_repL le n ds vs (by simpa [okD] using h) hl)
  | n, .dct _, _, h, _ => by cases n <;> simp [okD] at h
  | n, .ins _ _, _, h, _ => by cases n <;> simp [okD] at h
theorem dp_repL (le : ∀ a o, F a = some o → Rd H a o) : ∀ (n : Nat) (ds : List D) (vs : List V), okL n ds = true → RepL F vs ds → DpAll K H vs (toPyL ds)
  | n, [], _, _, r => by unfold RepL at r; subst r; exact .nil
  | n, d :: ds, _, h, r => by
    have h' : okD n d = true ∧ okL n ds = true := by simpa [okL] using h
    unfold RepL at r
    obtain ⟨v, vs, rfl, h1, h2⟩ := r
    exact .cons (dp_rep le n d v h'.1 h1) (dp_repL le n ds vs h'.2 h2)
end
theorem dp_pk (le : ∀ a o, F a = some o → Rd H a o) {n : Nat} {d : D} {v : V} (h : okD n d = true) (r : Pk F H v d) : Dp K H v (toPy d) := by
  cases d with
  | tup ds =>
    obtain ⟨a, vs, rfl, ha, hl, _⟩ := r
    cases n with
    | zero => simp [okD] at h
    | succ n => exact .tup (.inl ha) (dp_repL le n ds vs (by simpa [okD] using h) hl)
  | lst ds =>
    obtain ⟨a, vs, rfl, ha, hl⟩ := r
    cases n with
    | zero => simp [okD] at h
    | succ n => exact .lst (.inl ha) (dp_repL le n ds vs (by simpa [okD] using h) hl)
  | non => exact dp_rep le n _ v h r
  | bl _ => exact dp_rep le n _ v h r
  | int _ => exact dp_rep le n _ v h r
  | str _ => exact dp_rep le n _ v h r
  | dct _ => exfalso; cases n <;> simp [okD] at h
  | ins _ _ => exact dp_rep le n _ v h r
end
theorem depth_le {n m : Nat} {A : Around} (h : n ≤ 13) (hu : A.units + 64 < cLine) : A.units + min n m < cLine := by
  have := Nat.min_le_left n m; omega

/-! the rules, by data -/
/-- what follows an operation that gives data -/
def Kd (F : Gh) (ms : List Addr) (st : Loc) (H : Hp) (Q : V → Hp → Prop) (d : D) : Prop := ∀ (F' : Gh) (H' : Hp) (z : V), Stp F ms H F' ms H' → SRel F' ms st H' → Rep F' z d → Q z H'
def OpD (X : Cx) (f : Value → Value → Sem Value) (g : D → D → Option D) : Prop :=
  ∀ (pins : List (Addr × PySem.Obj)) (s : Shared) (σ : L2.St) (H : Hp) (F : Gh) (ms : List Addr) (st : Loc) (x y : V) (v u : Value) (a b d : D) (Q : VK), Inv X pins σ H s → RelV x v → RelV y u → SRel F ms st H → Pk F H x a → Pk F H y b → g a b = some d → Kd F ms st H Q d →
    wpAny (model X.prog X.w) X.A (f v u) (EP X pins σ Q) X.xe s
section
variable {F : Gh} {ms : List Addr} {st : Loc} {H : Hp} {Q : V → Hp → Prop} {d : D}
theorem Kd.here (S : SRel F ms st H) (k : Kd F ms st H Q d) {z : V} (h : Rep F z d) : Q z H := k F H z Stp.refl S h
theorem Kd.lst {ds : List D} {vs : List V} (S : SRel F ms st H) (k : Kd F ms st H Q (.lst ds)) (h : RepL F vs ds) {p : Addr} (hp : H p = none) : Q (.ref p) (upd H p (.lst vs)) :=
  k _ _ _ (Stp.lay S hp) (S.lay hp) (by unfold Rep; exact ⟨p, vs, rfl, upd_same, h.mono (Stp.lay S hp).sub _ _⟩)
theorem Kd.tup {ds : List D} {vs : List V} (S : SRel F ms st H) (k : Kd F ms st H Q (.tup ds)) (h : RepL F vs ds) {p : Addr} (hp : H p = none) : Q (.ref p) (upd H p (.tup vs)) :=
  k _ _ _ (Stp.lay S hp) (S.lay hp) (by unfold Rep; exact ⟨p, vs, rfl, upd_same, h.mono (Stp.lay S hp).sub _ _⟩)
end
section
variable {X : Cx}
theorem od_add : OpD X (binaryOp .Add) addD := by
  intro pins s σ H F ms st x y v u a b d Q I rx ry S ha hb e k
  cases a <;> cases b <;> first | (simp [addD] at e; done) | skip
  · rename_i i j
    cases (show x = V.int i from ha); cases (show y = V.int j from hb)
    cases (show some (D.int (i + j)) = some d from e)
    exact op_add pins s σ H _ _ v u Q I rx ry ⟨i, j, rfl, rfl, k.here S rfl⟩
  · rename_i i j
    cases (show x = V.str (sx i) from ha); cases (show y = V.str (sx j) from hb)
    have e2 : (if i.length + j.length ≤ 16777216 then some (D.str (i ++ j)) else none) = some d := e
    split at e2
    · rename_i hl
      cases e2
      exact op_add_str pins s σ H _ _ v u Q I rx ry ⟨_, _, rfl, rfl, by rw [len_sx, len_sx, line_eq]; exact hl, k.here S (by rw [sx_append]; rfl)⟩
    · cases e2
  · rename_i i j
    obtain ⟨p, vs, rfl, hp, hl, hfp⟩ := ha
    obtain ⟨q, us, rfl, hq, hm, _⟩ := hb
    have e2 : (if i ≠ [] ∧ i.length + j.length ≤ 16777216 then some (D.tup (i ++ j)) else none) = some d := e
    split at e2
    · rename_i hz
      cases e2
      have nv : vs ≠ [] := fun z => by
        subst z
        have := hl.len
        exact hz.1 (List.length_eq_zero_iff.mp this.symm)
      refine op_catT pins s σ H _ _ v u Q I rx ry ⟨p, q, vs, us, rfl, rfl, .inl hp, .inl hq, nv, by rw [hl.len, hm.len, line_eq]; exact hz.2, fun z => ?_, fun _ r hr => k.tup S (hl.append hm) hr⟩
      subst z
      have ej := List.length_eq_zero_iff.mp hm.len.symm
      subst ej
      refine k.here S ?_
      rw [List.append_nil]
      unfold Rep
      exact ⟨p, vs, rfl, hfp, hl⟩
    · cases e2
  · rename_i i j
    obtain ⟨p, vs, rfl, hp, hl⟩ := ha
    obtain ⟨q, us, rfl, hq, hm⟩ := hb
    have e2 : (if i.length + j.length ≤ 16777216 then some (D.lst (i ++ j)) else none) = some d := e
    split at e2
    · rename_i hz
      cases e2
      exact op_catR pins s σ H _ _ v u Q I rx ry ⟨p, q, vs, us, rfl, rfl, .inl hp, .inl hq, by rw [hl.len, hm.len, line_eq]; exact hz, fun r hr => k.lst S (hl.append hm) hr⟩
    · cases e2
theorem od_sub : OpD X (binaryOp .Sub) subD := by
  intro pins s σ H F ms st x y v u a b d Q I rx ry S ha hb e k
  cases a <;> cases b <;> first | (simp [subD] at e; done) | skip
  rename_i i j
  cases (show x = V.int i from ha); cases (show y = V.int j from hb)
  cases (show some (D.int (i - j)) = some d from e)
  exact op_sub pins s σ H _ _ v u Q I rx ry ⟨i, j, rfl, rfl, k.here S rfl⟩
theorem rep_fold (js : List Value) : ∀ m : Nat, List.foldl (fun x1 x2 => x1 ++ x2) #[] (List.replicate m js.toArray) = (List.replicate m js).flatten.toArray := fun m => by simpa using foldl_rep js m []
theorem op_repR {X : Cx} : OpR X (binaryOp .Mult) (fun x y H Q => ∃ l k xs, x = .ref l ∧ y = .int k ∧ Rd H l (.lst xs) ∧ (-(2 ^ 63) ≤ k ∧ k < 2 ^ 63) ∧ xs.length * k.toNat ≤ sizeLine ∧
    ∀ p, H p = none → Q (.ref p) (upd H p (.lst (List.replicate k.toNat xs).flatten))) := by
  rintro pins s σ H x y v u Q I rx ry ⟨l, k, xs, rfl, rfl, rd, ⟨klo, khi⟩, big, q⟩
  cases rx
  obtain ⟨tk, rfl⟩ := ry
  obtain ⟨_, js, n, rel, at_⟩ := rd.ok I.hok
  have many : js.toArray.size * k.toNat ≤ sizeLine := by simpa [rel.length] using big
  have c1 : ¬ js.toArray.size * k.toNat > (2 ^ 63 - 1) / 8 := fun z => absurd (Nat.lt_of_lt_of_le z many) (by decide)
  have c2 : ¬ (!Builtin.List.listFitsIndex k) = true := by rw [fitsIndex_both klo khi]; decide
  have c3 : ¬ Builtin.List.listTooLong (js.toArray.size * k.toNat) = true := by rw [notLongL many]; decide
  have c4 : List.replicate (if js.toArray.isEmpty = true then 0 else k.toNat) js.toArray = List.replicate k.toNat js.toArray ∨ js = [] := by
    cases js with
    | nil => exact .inr rfl
    | cons _ _ => exact .inl (by simp)
  have c5 : List.foldl (fun x1 x2 => x1 ++ x2) #[] (List.replicate (if js.toArray.isEmpty = true then 0 else k.toNat) js.toArray) = (List.replicate k.toNat js).flatten.toArray := by
    rcases c4 with z | rfl
    · rw [z, rep_fold]
    · rw [rep_fold]; simp
  refine wpAny_binaryOp_repeat_ref (T := "list") (U := "int") (by decide) ⟨_, at_, rfl⟩ (fun s' => typeIs_int s' k tk) noFill_list_mul F.fills_int_mul F.slot_int_rmul repeat_list F.slot_int_index.lookup ?_
  refine call_meets F.slot_int_rmul (typeIs_int s k tk) F.entry_int_rmul (F.args_int_rmul_2 _ _) (int___rmul___int_list k tk l js.toArray n) ⟨at_, rfl, ⟨_, at_, rfl⟩, ?_⟩
  refine call_meets F.slot_list_mul ⟨_, at_, rfl⟩ F.entry_list_mul (F.args_list_mul_2 _ _) (AutoListH.list___mul___list_int_3 l js.toArray n k tk c2 c1 c3) ⟨at_, ?_⟩
  rw [c5]
  refine ⟨.ref _, _, I.lnew (t' := s.toks) (rel.rep k.toNat) ?_, rfl, q _ I.fresh⟩
  rw [PyProof.Rows.lm_len_rep_flat, Nat.mul_comm]
  exact big
theorem RepL.rep {F : Gh} {vs : List V} {ds : List D} (h : RepL F vs ds) : ∀ n : Nat, RepL F (List.replicate n vs).flatten (List.replicate n ds).flatten
  | 0 => RepL.nil
  | n + 1 => by
    rw [List.replicate_succ, List.replicate_succ, List.flatten_cons, List.flatten_cons]
    exact h.append (RepL.rep h n)
theorem mul_okS {z : Tx} {n : Int} (hlo : -9223372036854775808 ≤ n) (hhi : n < 9223372036854775808) (hl : z.length * n.toNat ≤ 16777216) : MulOk (sx z) n := by
  refine ⟨?_, fun h1 h2 => ?_, fun h1 h2 => ?_⟩
  · rw [decide_eq_false (by omega), decide_eq_false (by omega)]; rfl
  · rw [len_sx]
    intro h
    have h3 : 0 < n := by omega
    have h4 : (2 ^ 63 - 1) / n < (z.length : Int) := h
    have h5 : (2 ^ 63 - 1 : Int) < (z.length : Int) * n := Int.lt_mul_of_ediv_lt h3 h4
    obtain ⟨m, rfl⟩ : ∃ m : Nat, n = (m : Int) := ⟨n.toNat, by omega⟩
    rw [Int.toNat_natCast] at hl
    have h6 : ((z.length * m : Nat) : Int) ≤ 16777216 := by omega
    rw [Int.natCast_mul] at h6
    omega
  · rw [len_sx]
    unfold Builtin.Str.tooLong
    rw [decide_eq_false]
    rw [line_eq]
    omega
theorem mul_sx (z : Tx) (n : Int) : Txt.mul (sx z) n = sx (List.replicate n.toNat z).flatten := by
  apply TL.ext_tl
  rw [tl_sx]
  unfold Txt.mul
  by_cases h1 : n < 1
  · rw [if_pos h1]
    have : n.toNat = 0 := by omega
    rw [this]
    rfl
  · rw [if_neg h1]
    by_cases h2 : n = 1
    · subst h2
      simp
    · have h3 : (n == 1) = false := by simp [h2]
      rw [h3, Bool.false_or]
      cases z with
      | nil =>
        have h4 : ((sx []).length == 0) = true := by rw [len_sx]; rfl
        rw [h4, if_pos rfl, tl_sx]
        simp
      | cons c r =>
        have h4 : ((sx (c :: r)).length == 0) = false := by rw [len_sx]; simp
        rw [h4, if_neg (by simp)]
        show (List.foldl (fun x1 x2 => x1 ++ x2) #[] (List.replicate n.toNat (sx (c :: r)).cps)).toList = _
        have : ∀ (m : Nat) (acc : Array Nat), (List.foldl (fun x1 x2 => x1 ++ x2) acc (List.replicate m (sx (c :: r)).cps)).toList = acc.toList ++ (List.replicate m (c :: r)).flatten := by
          intro m
          induction m with
          | zero => intro acc; simp
          | succ m ih =>
            intro acc
            rw [List.replicate_succ, List.foldl_cons, ih, List.replicate_succ, List.flatten_cons]
            simp
        rw [this]
        simp
theorem od_mul : OpD X (binaryOp .Mult) mulD := by
  intro pins s σ H F ms st x y v u a b d Q I rx ry S ha hb e k
  cases a <;> cases b <;> first | (simp [mulD] at e; done) | skip
  · rename_i i j
    cases (show x = V.int i from ha); cases (show y = V.int j from hb)
    have e2 : (if (-(2 ^ 64) < i ∧ i < 2 ^ 64) ∨ (-(2 ^ 64) < j ∧ j < 2 ^ 64) then some (D.int (i * j)) else none) = some d := e
    split at e2
    · rename_i hc
      cases e2
      exact op_mul pins s σ H _ _ v u Q I rx ry ⟨i, j, rfl, rfl, hc, k.here S rfl⟩
    · cases e2
  · rename_i z j
    cases (show x = V.str (sx z) from ha)
    cases (show y = V.int j from hb)
    have e2 : (if -9223372036854775808 ≤ j ∧ j < 9223372036854775808 ∧ z.length * j.toNat ≤ 16777216 then some (D.str (List.replicate j.toNat z).flatten) else none) = some d := e
    split at e2
    · rename_i hz
      cases e2
      obtain ⟨t1, rfl⟩ := rx
      obtain ⟨t2, rfl⟩ := ry
      refine PySem.SB.mul (mul_okS hz.1 hz.2.1 hz.2.2) fun t' k' => ⟨.str (Txt.mul (sx z) j), H, I.tok _, ⟨_, rfl⟩, k.here S ?_⟩
      show V.str _ = V.str _
      rw [mul_sx]
    · cases e2
  · rename_i ds j
    obtain ⟨p, vs, rfl, hp, hl⟩ := ha
    cases (show y = V.int j from hb)
    have e2 : (if -9223372036854775808 ≤ j ∧ j < 9223372036854775808 ∧ ds.length * j.toNat ≤ 16777216 then some (D.lst (List.replicate j.toNat ds).flatten) else none) = some d := e
    split at e2
    · rename_i hz
      cases e2
      exact op_repR pins s σ H _ _ v u Q I rx ry ⟨p, j, vs, rfl, rfl, hp, by omega, by rw [hl.len, line_eq]; exact hz.2.2, fun r hr => k.lst S (hl.rep j.toNat) hr⟩
    · cases e2
theorem od_fdiv : OpD X (binaryOp .FloorDiv) fdivD := by
  intro pins s σ H F ms st x y v u a b d Q I rx ry S ha hb e k
  cases a <;> cases b <;> first | (simp [fdivD] at e; done) | skip
  rename_i i j
  cases (show x = V.int i from ha); cases (show y = V.int j from hb)
  have e2 : (if 0 < j ∧ j < 1073741824 then some (D.int (i / j)) else none) = some d := e
  split at e2
  · rename_i hc
    cases e2
    exact op_fdiv pins s σ H _ _ v u Q I rx ry ⟨i, j, rfl, rfl, hc, k.here S rfl⟩
  · cases e2
theorem od_mod : OpD X (binaryOp .Mod) modD := by
  intro pins s σ H F ms st x y v u a b d Q I rx ry S ha hb e k
  cases a <;> cases b <;> first | (simp [modD] at e; done) | skip
  rename_i i j
  cases (show x = V.int i from ha); cases (show y = V.int j from hb)
  have e2 : (if 0 < j then some (D.int (i % j)) else none) = some d := e
  split at e2
  · rename_i hc
    cases e2
    exact op_mod pins s σ H _ _ v u Q I rx ry ⟨i, j, rfl, rfl, hc, k.here S rfl⟩
  · cases e2
theorem od_pow : OpD X (binaryOp .Pow) powD := by
  intro pins s σ H F ms st x y v u a b d Q I rx ry S ha hb e k
  cases a <;> cases b <;> first | (simp [powD] at e; done) | skip
  rename_i i j
  cases (show x = V.int i from ha); cases (show y = V.int j from hb)
  have e2 : (if 0 ≤ j ∧ j ≤ 1000000 ∧ i.natAbs < 2 ^ 64 then some (D.int (i ^ j.toNat)) else none) = some d := e
  split at e2
  · rename_i hc
    cases e2
    exact op_pow pins s σ H _ _ v u Q I rx ry ⟨i, j, rfl, rfl, hc, k.here S rfl⟩
  · cases e2
theorem od_cmp {op : CmpOp} {g : Int → Int → Bool} (ho : OpR X (compareOp op) (rI0 fun i j => .bl (g i j))) : OpD X (compareOp op) (cmpI g) := by
  intro pins s σ H F ms st x y v u a b d Q I rx ry S ha hb e k
  cases a <;> cases b <;> first | (simp [cmpI] at e; done) | skip
  rename_i i j
  cases (show x = V.int i from ha); cases (show y = V.int j from hb)
  cases (show some (D.bl (g i j)) = some d from e)
  exact ho pins s σ H _ _ v u Q I rx ry ⟨i, j, rfl, rfl, k.here S rfl⟩
theorem od_eq (hu : X.A.units + 64 < cLine) : OpD X (compareOp .Eq) (fun a b => (eqO a b).map .bl) := by
  intro pins s σ H F ms st x y v u a b d Q I rx ry S ha hb e k
  dsimp only [eqO] at e
  by_cases hc : (okD 12 a && okD 12 b) = true
  · rw [if_pos hc] at e
    cases e
    obtain ⟨h1, h2⟩ := Bool.and_eq_true_iff.mp hc
    obtain ⟨as, r1⟩ := Dp.reads I (toPy a) x v (dp_pk S.le h1 ha) rx
    obtain ⟨bs, r2⟩ := Dp.reads I (toPy b) y u (dp_pk S.le h2 hb) ry
    refine SeqAt.eq_plain r1 r2 (py_plain a) (py_plain b) (depth_le (py_depth 12 a h1) hu) ?_
    rw [py_eqv 12 12 a b h1 h2]
    exact ⟨.bl _, H, I, rfl, k.here S rfl⟩
  · rw [if_neg hc] at e; cases e
theorem od_ne (hu : X.A.units + 64 < cLine) : OpD X (compareOp .NotEq) (fun a b => (eqO a b).map fun t => .bl (!t)) := by
  intro pins s σ H F ms st x y v u a b d Q I rx ry S ha hb e k
  dsimp only [eqO] at e
  by_cases hc : (okD 12 a && okD 12 b) = true
  · rw [if_pos hc] at e
    cases e
    obtain ⟨h1, h2⟩ := Bool.and_eq_true_iff.mp hc
    obtain ⟨as, r1⟩ := Dp.reads I (toPy a) x v (dp_pk S.le h1 ha) rx
    obtain ⟨bs, r2⟩ := Dp.reads I (toPy b) y u (dp_pk S.le h2 hb) ry
    refine SeqAt.ne_plain r1 r2 (py_plain a) (py_plain b) (depth_le (py_depth 12 a h1) hu) ?_
    rw [py_eqv 12 12 a b h1 h2]
    exact ⟨.bl _, H, I, rfl, k.here S rfl⟩
  · rw [if_neg hc] at e; cases e
theorem any_py (n m : Nat) : ∀ (ds : List D) (d : D), okL n ds = true → okD m d = true → ((toPyL ds).any fun y => y.eqv (toPy d)) = anyD d ds
  | [], _, _, _ => rfl
  | x :: ds, d, h, h' => by
    have h1 : okD n x = true ∧ okL n ds = true := by simpa [okL] using h
    simp only [toPyL, List.any_cons, anyD, py_eqv n m x d h1.1 h', any_py n m ds d h1.2 h']
theorem depthL_le {n m : Nat} {A : Around} (h : n ≤ 13) (hu : A.units + 64 < cLine) : A.units + 1 + min n m < cLine := by
  have := Nat.min_le_left n m; omega
/-- the two forms of in -/
inductive InK (F : Gh) (H : Hp) (x y : V) (a b : D) (t : Bool) : Prop where
  | str (c : Nat) (s : Tx) (ea : a = .str [c]) (eb : b = .str s) (et : t = decide (c ∈ s))
  | lst (ds : List D) (eb : b = .lst ds) (h1 : okD 12 a = true) (h2 : okL 12 ds = true) (et : t = anyD a ds)
  | tup (ds : List D) (eb : b = .tup ds) (h1 : okD 12 a = true) (h2 : okL 12 ds = true) (et : t = anyD a ds)
theorem inK {F : Gh} {H : Hp} {x y : V} {a b : D} {t : Bool} (e : inO a b = some t) : InK F H x y a b t := by
  unfold inO at e
  split at e
  · exact .str _ _ rfl rfl (by simpa using e.symm)
  · split at e
    · rename_i h
      obtain ⟨h1, h2⟩ := Bool.and_eq_true_iff.mp h
      exact .lst _ rfl h1 h2 (by simpa using e.symm)
    · cases e
  · split at e
    · rename_i h
      obtain ⟨h1, h2⟩ := Bool.and_eq_true_iff.mp h
      exact .tup _ rfl h1 h2 (by simpa using e.symm)
    · cases e
  · cases e
theorem od_in (hu : X.A.units + 64 < cLine) : OpD X (compareOp .In) (fun a b => (inO a b).map .bl) := by
  intro pins s σ H F ms st x y v u a b d Q I rx ry S ha hb e k
  dsimp only at e
  cases q : inO a b with
  | none => rw [q] at e; cases e
  | some t =>
    rw [q] at e; cases e
    cases inK (F := F) (H := H) (x := x) (y := y) q with
    | str c z ea eb et =>
      subst ea eb et
      cases (show x = V.str (sx [c]) from ha); cases (show y = V.str (sx z) from hb)
      exact op_in_sign pins s σ H _ _ v u Q I rx ry ⟨c, sx z, rfl, rfl, k.here S rfl⟩
    | lst ds eb h1 h2 et =>
      subst eb et
      obtain ⟨as, r1⟩ := Dp.reads I (toPy a) x v (dp_pk S.le h1 ha) rx
      obtain ⟨bs, r2⟩ := Dp.reads I (toPy (.lst ds)) y u (dp_pk S.le (n := 13) (by simpa [okD] using h2) hb) ry
      refine SeqAt.in_list_data (xs := toPyL ds) r2 r1 (py_plainL ds) (py_plain a) (depthL_le (py_depthL 12 ds h2) hu) ?_
      rw [any_py 12 12 ds a h2 h1]
      exact ⟨.bl _, H, I, rfl, k.here S rfl⟩
    | tup ds eb h1 h2 et =>
      subst eb et
      obtain ⟨as, r1⟩ := Dp.reads I (toPy a) x v (dp_pk S.le h1 ha) rx
      obtain ⟨bs, r2⟩ := Dp.reads I (toPy (.tup ds)) y u (dp_pk S.le (n := 13) (by simpa [okD] using h2) hb) ry
      refine SeqAt.in_tuple_data (xs := toPyL ds) r2 r1 (py_plainL ds) (py_plain a) (depthL_le (py_depthL 12 ds h2) hu) ?_
      rw [any_py 12 12 ds a h2 h1]
      exact ⟨.bl _, H, I, rfl, k.here S rfl⟩
theorem od_notin (hu : X.A.units + 64 < cLine) : OpD X (compareOp .NotIn) (fun a b => (inO a b).map fun t => .bl (!t)) := by
  intro pins s σ H F ms st x y v u a b d Q I rx ry S ha hb e k
  dsimp only at e
  cases q : inO a b with
  | none => rw [q] at e; cases e
  | some t =>
    rw [q] at e; cases e
    cases inK (F := F) (H := H) (x := x) (y := y) q with
    | str c z ea eb et =>
      subst ea eb et
      cases (show x = V.str (sx [c]) from ha); cases (show y = V.str (sx z) from hb)
      exact op_notIn_sign pins s σ H _ _ v u Q I rx ry ⟨c, sx z, rfl, rfl, k.here S rfl⟩
    | lst ds eb h1 h2 et =>
      subst eb et
      obtain ⟨as, r1⟩ := Dp.reads I (toPy a) x v (dp_pk S.le h1 ha) rx
      obtain ⟨bs, r2⟩ := Dp.reads I (toPy (.lst ds)) y u (dp_pk S.le (n := 13) (by simpa [okD] using h2) hb) ry
      refine SeqAt.notIn_list_data (xs := toPyL ds) r2 r1 (py_plainL ds) (py_plain a) (depthL_le (py_depthL 12 ds h2) hu) ?_
      rw [any_py 12 12 ds a h2 h1]
      exact ⟨.bl _, H, I, rfl, k.here S rfl⟩
    | tup ds eb h1 h2 et =>
      subst eb et
      obtain ⟨as, r1⟩ := Dp.reads I (toPy a) x v (dp_pk S.le h1 ha) rx
      obtain ⟨bs, r2⟩ := Dp.reads I (toPy (.tup ds)) y u (dp_pk S.le (n := 13) (by simpa [okD] using h2) hb) ry
      refine SeqAt.notIn_tuple_data (xs := toPyL ds) r2 r1 (py_plainL ds) (py_plain a) (depthL_le (py_depthL 12 ds h2) hu) ?_
      rw [any_py 12 12 ds a h2 h1]
      exact ⟨.bl _, H, I, rfl, k.here S rfl⟩

/-! by values of the store -/
def Kw (F : Gh) (ms : List Addr) (st : Loc) (H : Hp) (Q : V → Hp → Prop) (w : W) : Prop := ∀ (F' : Gh) (H' : Hp) (z : V), Stp F ms H F' ms H' → SRel F' ms st H' → Rp F' ms z w → Q z H'
def OpW (X : Cx) (f : Value → Value → Sem Value) (g : Loc → W → W → Option W) : Prop :=
  ∀ (pins : List (Addr × PySem.Obj)) (s : Shared) (σ : L2.St) (H : Hp) (F : Gh) (ms : List Addr) (st : Loc) (x y : V) (v u : Value) (a b d : W) (Q : VK), Inv X pins σ H s → RelV x v → RelV y u → SRel F ms st H → Rp F ms x a → Rp F ms y b → g st a b = some d → Kw F ms st H Q d →
    wpAny (model X.prog X.w) X.A (f v u) (EP X pins σ Q) X.xe s
theorem ow_of {f : Value → Value → Sem Value} {g : D → D → Option D} (h : OpD X f g) : OpW X f (fun st x y => (pk st x).bind fun a => (pk st y).bind fun b => (g a b).map .d) := by
  intro pins s σ H F ms st x y v u a b d Q I rx ry S ha hb e k
  dsimp only at e
  cases q1 : pk st a with
  | none => rw [q1] at e; cases e
  | some a' =>
    cases q2 : pk st b with
    | none => rw [q1, q2] at e; cases e
    | some b' =>
      cases q3 : g a' b' with
      | none => rw [q1, q2] at e; simp [q3] at e
      | some d' =>
        rw [q1, q2] at e
        simp [q3] at e
        subst e
        exact h pins s σ H F ms st x y v u a' b' d' Q I rx ry S (S.pk ha q1) (S.pk hb q2) q3 fun F' H' z t S' r => k F' H' z t S' r
theorem isNone_rep {F : Gh} {ms : List Addr} {x : V} {a : W} (h : Rp F ms x a) : decide (x = .non) = isNone a := by
  cases a with
  | r n =>
    obtain ⟨p, _, rfl⟩ := h
    rfl
  | d d =>
    cases d with
    | non => cases (show x = V.non from h); rfl
    | bl _ => cases (show x = V.bl _ from h); rfl
    | int _ => cases (show x = V.int _ from h); rfl
    | str _ => cases (show x = V.str _ from h); rfl
    | tup ds => obtain ⟨p, vs, rfl, _⟩ := (show Rep F x (.tup ds) from h); rfl
    | lst ds => obtain ⟨p, vs, rfl, _⟩ := (show Rep F x (.lst ds) from h); rfl
    | dct ds => obtain ⟨_, p, rfl, _⟩ := (show Rep F x (.dct ds) from h); rfl
    | ins c ds => obtain ⟨p, rfl, _⟩ := (show Rep F x (.ins c ds) from h); rfl
theorem isO_cases {a b : W} {t : Bool} (e : isO a b = some t) : (b = .d .non ∧ t = isNone a) ∨ ∃ i j, a = .d (.bl i) ∧ b = .d (.bl j) ∧ t = (i == j) := by
  unfold isO at e
  split at e
  · exact .inl ⟨rfl, by simpa using e.symm⟩
  · exact .inr ⟨_, _, rfl, rfl, by simpa using e.symm⟩
  · cases e
theorem ow_is : OpW X (compareOp .Is) (fun _ x y => (isO x y).map fun t => .d (.bl t)) := by
  intro pins s σ H F ms st x y v u a b d Q I rx ry S ha hb e k
  dsimp only at e
  cases q : isO a b with
  | none => rw [q] at e; cases e
  | some t =>
    rw [q] at e; cases e
    rcases isO_cases q with ⟨rfl, rfl⟩ | ⟨i, j, rfl, rfl, rfl⟩
    · cases (show y = V.non from hb)
      exact op_isN pins s σ H _ _ v u Q I rx ry ⟨rfl, by rw [isNone_rep ha]; exact k F H _ Stp.refl S rfl⟩
    · cases (show x = V.bl i from ha); cases (show y = V.bl j from hb)
      refine op_is_bl pins s σ H _ _ v u Q I rx ry ⟨i, j, rfl, rfl, ?_⟩
      rw [← Bool.beq_eq_decide_eq]
      exact k F H _ Stp.refl S rfl
theorem ow_isnot : OpW X (compareOp .IsNot) (fun _ x y => (isO x y).map fun t => .d (.bl (!t))) := by
  intro pins s σ H F ms st x y v u a b d Q I rx ry S ha hb e k
  dsimp only at e
  cases q : isO a b with
  | none => rw [q] at e; cases e
  | some t =>
    rw [q] at e; cases e
    rcases isO_cases q with ⟨rfl, rfl⟩ | ⟨i, j, rfl, rfl, rfl⟩
    · cases (show y = V.non from hb)
      exact op_notN pins s σ H _ _ v u Q I rx ry ⟨rfl, by rw [isNone_rep ha]; exact k F H _ Stp.refl S rfl⟩
    · cases (show x = V.bl i from ha); cases (show y = V.bl j from hb)
      refine op_isnot_bl pins s σ H _ _ v u Q I rx ry ⟨i, j, rfl, rfl, ?_⟩
      rw [← Bool.beq_eq_decide_eq]
      exact k F H _ Stp.refl S rfl
/-- which of the model's operations an Op2 is -/
def okBin : Op2 → Operator → Bool
  | .add, .Add => true | .sub, .Sub => true | .mul, .Mult => true | .fdiv, .FloorDiv => true | .mod, .Mod => true | .pow, .Pow => true
  | _, _ => false
def okCmp : Op2 → CmpOp → Bool
  | .eq, .Eq => true | .ne, .NotEq => true | .lt, .Lt => true | .le, .LtE => true | .gt, .Gt => true | .ge, .GtE => true
  | .isin, .In => true | .notin, .NotIn => true | .isv, .Is => true | .isnot, .IsNot => true
  | _, _ => false
theorem ow_bin {o : Op2} {op : Operator} (h : okBin o op = true) : OpW X (binaryOp op) (fun st => op2W st o) := by
  cases o <;> cases op <;> first | (simp [okBin] at h; done) | skip
  · exact ow_of od_add
  · exact ow_of od_sub
  · exact ow_of od_mul
  · exact ow_of od_fdiv
  · exact ow_of od_mod
  · exact ow_of od_pow
/-! dicts -/
theorem inW_pk {st : Loc} {x y : W} {t : Bool} (h : inW st x y = some t) : (∃ n ver ks k, y = .r n ∧ st[n]? = some (.dct ver ks) ∧ x = .d k ∧ kyOk ks k = true ∧ t = (getK ks k).isSome) ∨ ((pk st x).bind fun a => (pk st y).bind fun b => inO a b) = some t := by
  unfold inW at h
  cases y with
  | d z => exact .inr h
  | r n =>
    dsimp only at h
    cases q : st[n]? with
    | none => rw [q] at h; exact .inr h
    | some ob =>
      rw [q] at h
      cases ob with
      | dct ver ks =>
        cases x with
        | r m => cases h
        | d k =>
          dsimp only at h
          split at h
          · rename_i hk
            cases h
            exact .inl ⟨n, ver, ks, k, rfl, q, rfl, hk, rfl⟩
          · cases h
      | lst _ => exact .inr h
      | tup _ => exact .inr h
      | ins _ _ => exact .inr h
      | dead => exact .inr h
theorem ow_in (C : PwOk X) (hu : X.A.units + 64 < cLine) : OpW X (compareOp .In) (fun st x y => (inW st x y).map fun t => .d (.bl (t))) := by
  intro pins s σ H F ms st x y v u a b d Q I rx ry S ha hb e k
  dsimp only at e
  cases q : inW st a b with
  | none => rw [q] at e; cases e
  | some t =>
    rw [q] at e
    cases e
    rcases inW_pk q with ⟨n, ver, ks, kk, rfl, q1, rfl, q2, rfl⟩ | q1
    · obtain ⟨p, hp, rfl⟩ := hb
      obtain ⟨o, D0⟩ := dc_at C I S hp q1
      cases ry
      exact dx_in (by omega) I S D0 q2 ha rx fun s' I' => ⟨.bl _, H, I', rfl, k F H _ Stp.refl S rfl⟩
    · refine ow_of (od_in hu) pins s σ H F ms st x y v u a b (.d (.bl (t))) Q I rx ry S ha hb ?_ k
      dsimp only
      cases p1 : pk st a with
      | none => rw [p1] at q1; cases q1
      | some a' =>
        cases p2 : pk st b with
        | none => rw [p1, p2] at q1; cases q1
        | some b' =>
          have q3 : inO a' b' = some t := by rw [p1, p2] at q1; exact q1
          simp [q3]
theorem ow_notin (C : PwOk X) (hu : X.A.units + 64 < cLine) : OpW X (compareOp .NotIn) (fun st x y => (inW st x y).map fun t => .d (.bl (!t))) := by
  intro pins s σ H F ms st x y v u a b d Q I rx ry S ha hb e k
  dsimp only at e
  cases q : inW st a b with
  | none => rw [q] at e; cases e
  | some t =>
    rw [q] at e
    cases e
    rcases inW_pk q with ⟨n, ver, ks, kk, rfl, q1, rfl, q2, rfl⟩ | q1
    · obtain ⟨p, hp, rfl⟩ := hb
      obtain ⟨o, D0⟩ := dc_at C I S hp q1
      cases ry
      exact dx_notIn (by omega) I S D0 q2 ha rx fun s' I' => ⟨.bl _, H, I', rfl, k F H _ Stp.refl S rfl⟩
    · refine ow_of (od_notin hu) pins s σ H F ms st x y v u a b (.d (.bl (!t))) Q I rx ry S ha hb ?_ k
      dsimp only
      cases p1 : pk st a with
      | none => rw [p1] at q1; cases q1
      | some a' =>
        cases p2 : pk st b with
        | none => rw [p1, p2] at q1; cases q1
        | some b' =>
          have q3 : inO a' b' = some t := by rw [p1, p2] at q1; exact q1
          simp [q3]
theorem ow_cmp {o : Op2} {op : CmpOp} (C : PwOk X) (hu : X.A.units + 64 < cLine) (h : okCmp o op = true) : OpW X (compareOp op) (fun st => op2W st o) := by
  cases o <;> cases op <;> first | (simp [okCmp] at h; done) | skip
  · exact ow_of (od_eq hu)
  · exact ow_of (od_ne hu)
  · exact ow_of (od_cmp op_lt)
  · exact ow_of (od_cmp op_le)
  · exact ow_of (od_cmp op_gt)
  · exact ow_of (od_cmp op_ge)
  · exact ow_in C hu
  · exact ow_notin C hu
  · exact ow_is
  · exact ow_isnot

/-! truth -/
theorem sx_truth (s : Tx) : ((((sx s).length : Nat) : Int) != 0) = !s.isEmpty := by
  rw [len_sx]
  cases s with
  | nil => rfl
  | cons c r =>
    simp only [List.length_cons, List.isEmpty_cons, Bool.not_false, bne_iff_ne, ne_eq]
    omega
theorem isEmpty_len {α β : Type} {xs : List α} {ys : List β} (h : xs.length = ys.length) : xs.isEmpty = ys.isEmpty := by
  cases xs <;> cases ys <;> simp_all
theorem tr_ok {pins : List (Addr × PySem.Obj)} {s : Shared} {σ : L2.St} {H : Hp} {F : Gh} {ms : List Addr} {st : Loc} {x : V} {v : Value} {a : W} {t : Bool} {Q : Bool → Hp → Prop}
    (I : Inv X pins σ H s) (rx : RelV x v) (S : SRel F ms st H) (ha : Rp F ms x a) (e : trW st a = some t) (k : Q t H) : wpAny (model X.prog X.w) X.A (truthy v) (TP X pins σ Q) X.xe s := by
  unfold trW at e
  cases q : pk st a with
  | none => rw [q] at e; cases e
  | some d =>
    have e2 : trD d = some t := by rw [q] at e; exact e
    have P := S.pk ha q
    refine tru_ok pins s σ H x v Q I rx ⟨t, ?_, k⟩
    cases d with
    | non => cases (show x = V.non from P); cases (show some false = some t from e2); rfl
    | bl b => cases (show x = V.bl b from P); cases (show some b = some t from e2); rfl
    | int i => cases (show x = V.int i from P); cases (show some (i != 0) = some t from e2); rfl
    | str z =>
      cases (show x = V.str (sx z) from P)
      have e3 : (if z.length ≤ 16777216 then some (!z.isEmpty) else none) = some t := e2
      split at e3
      · rename_i hz
        cases e3
        exact ⟨by rw [len_sx, line_eq]; exact hz, (sx_truth z).symm⟩
      · cases e3
    | tup ds =>
      obtain ⟨p, vs, rfl, hp, hl, _⟩ := P
      cases (show some (!ds.isEmpty) = some t from e2)
      exact .inr (.inl ⟨vs, .inl hp, by rw [isEmpty_len hl.len]⟩)
    | lst ds =>
      obtain ⟨p, vs, rfl, hp, hl⟩ := P
      cases (show some (!ds.isEmpty) = some t from e2)
      exact .inl ⟨vs, .inl hp, by rw [isEmpty_len hl.len]⟩
    | dct _ => cases (show none = some t from e2)
    | ins _ _ => cases (show none = some t from e2)

/-! subscripts -/
theorem atI_rep {F : Gh} {vs : List V} {ds : List D} {i : Int} {d : D} (h : RepL F vs ds) (e : atD ds i = some d) : ∃ v, atI vs i = some v ∧ Rep F v d := by
  unfold atD atI at e
  unfold atI
  rw [h.len]
  cases q : ixN ds.length i with
  | none => rw [q] at e; cases e
  | some j =>
    rw [q] at e
    obtain ⟨v, a, b⟩ := h.get (i := j) e
    exact ⟨v, a, b⟩
theorem atI_rp {F : Gh} {ms : List Addr} {vs : List V} {ws : List W} {i : Int} {w : W} (h : RpL F ms vs ws) (e : atD ws i = some w) : ∃ v, atI vs i = some v ∧ Rp F ms v w := by
  unfold atD atI at e
  unfold atI
  rw [h.len]
  cases q : ixN ws.length i with
  | none => rw [q] at e; cases e
  | some j =>
    rw [q] at e
    obtain ⟨v, a, b⟩ := h.get (i := j) e
    exact ⟨v, a, b⟩
/-- d[y] of a dict's object, behind both -/
theorem tail_dict {prog : Program} {w : World} {A : Around} {E : Value → Shared → Prop} {s : Shared} {value slice : Expr} {o i : Value} {Q : Value → Shared → Prop} (hT : s.TypeIs o "dict")
    (hs : subscripted slice false o i = operate [o, i] (getItem o i)) (h : wpAny (model prog w) A (getItem o i) Q E s) : wpAny (model prog w) A (subscriptTail value slice o i) Q E s := by
  have tl : wpAny (model prog w) A (subscripted slice false o i) (fun r s₃ => wpAny (model prog w) A (letTemporaryGo value o r >>= fun _ => pure r) Q E s₃) E s := by
    rw [hs]
    exact wpAny_operating (thn h fun r s₃ z => wpAny_bind (wpAny_letTemporaryGo (wpAny_pure z)))
  unfold subscriptTail
  rw [getitemInPython_of_ne hT.not_modules]
  refine wpAny_bind (wpAny_bind (wpAny_specialOf hT PySem.F.slot_dict_getitem.lookup ?_))
  first | exact wpAny_pure (wpAny_bind tl) | exact wpAny_bind (wpAny_pure (wpAny_bind tl)) | exact wpAny_bind tl
theorem ix_ok (C : PwOk X) (hu : X.A.units + 1 < cLine) {value slice : Expr} {pins : List (Addr × PySem.Obj)} {s : Shared} {σ : L2.St} {H : Hp} {F : Gh} {ms : List Addr} {st : Loc} {x y : V} {v u : Value} {a b w : W} {Q : VK}
    (I : Inv X pins σ H s) (rx : RelV x v) (ry : RelV y u) (S : SRel F ms st H) (ha : Rp F ms x a) (hb : Rp F ms y b) (e : idxW st a b = some w) (k : Kw F ms st H Q w)
    (hs : subscripted slice false v u = operate [v, u] (getItem v u)) : wpAny (model X.prog X.w) X.A (subscriptTail value slice v u) (EP X pins σ Q) X.xe s := by
  unfold idxW at e
  split at e
  · rename_i ds i
    cases q : atD ds i with
    | none => rw [q] at e; cases e
    | some d =>
      rw [q] at e; cases e
      obtain ⟨p, vs, rfl, hp, hl⟩ := (show Rep F x (.lst ds) from ha)
      cases (show y = V.int i from hb)
      obtain ⟨z, hz, hr⟩ := atI_rep hl q
      exact ix_list value slice pins s σ H _ _ v u Q I rx ry ⟨p, vs, i, z, rfl, rfl, .inl (S.le _ _ hp), hz, k F H z Stp.refl S hr⟩ hs
  · rename_i ds i
    cases q : atD ds i with
    | none => rw [q] at e; cases e
    | some d =>
      rw [q] at e; cases e
      obtain ⟨p, vs, rfl, hp, hl⟩ := (show Rep F x (.tup ds) from ha)
      cases (show y = V.int i from hb)
      obtain ⟨z, hz, hr⟩ := atI_rep hl q
      exact ix_tup value slice pins s σ H _ _ v u Q I rx ry ⟨p, vs, i, z, rfl, rfl, .inl (S.le _ _ hp), hz, k F H z Stp.refl S hr⟩ hs
  · rename_i z i
    split at e
    · rename_i hz
      cases q : atD z i with
      | none => rw [q] at e; cases e
      | some c =>
        rw [q] at e; cases e
        cases (show x = V.str (sx z) from ha)
        cases (show y = V.int i from hb)
        exact ix_str value slice pins s σ H _ _ v u Q I rx ry ⟨_, i, c, rfl, rfl, by rw [len_sx, line_eq]; exact hz, q, k F H _ Stp.refl S rfl⟩ hs
    · cases e
  · rename_i n kk
    obtain ⟨p, hp, rfl⟩ := ha
    cases q : st[n]? with
    | none => rw [q] at e; cases e
    | some o =>
      rw [q] at e
      cases o with
      | lst ws =>
        cases kk <;> first | (cases e; done) | skip
        rename_i i
        cases (show y = V.int i from hb)
        obtain ⟨_, vs, hH, hl⟩ := S.at_ n p _ hp q
        obtain ⟨z, hz, hr⟩ := atI_rp hl e
        exact ix_list value slice pins s σ H _ _ v u Q I rx ry ⟨p, vs, i, z, rfl, rfl, .inl (.inl hH), hz, k F H z Stp.refl S hr⟩ hs
      | tup ws =>
        cases kk <;> first | (cases e; done) | skip
        rename_i i
        cases (show y = V.int i from hb)
        obtain ⟨_, vs, hH, hl⟩ := S.at_ n p _ hp q
        obtain ⟨z, hz, hr⟩ := atI_rp hl e
        exact ix_tup value slice pins s σ H _ _ v u Q I rx ry ⟨p, vs, i, z, rfl, rfl, .inl (.inl hH), hz, k F H z Stp.refl S hr⟩ hs
      | dct ver ks =>
        obtain ⟨o, D0⟩ := dc_at C I S hp q
        have e2 : (if kyOk ks kk = true then getK ks kk else none) = some w := e
        split at e2
        · rename_i hk
          cases rx
          exact tail_dict D0.typ.1 hs (dx_getItem hu I S D0 hk hb ry e2 fun w' z s' I' r' hr => ⟨z, H, I', r', k F H z Stp.refl S hr⟩)
        · cases e2
      | ins _ _ => cases e
      | dead => cases e
  · cases e
theorem RepL.drop {F : Gh} : ∀ (n : Nat) {vs : List V} {ds : List D}, RepL F vs ds → RepL F (vs.drop n) (ds.drop n)
  | 0, _, _, h => h
  | n + 1, vs, [], h => by unfold RepL at h; subst h; exact RepL.nil
  | n + 1, vs, d :: ds, h => by
    unfold RepL at h
    obtain ⟨v, r, rfl, _, h2⟩ := h
    exact RepL.drop n h2
theorem RepL.take {F : Gh} : ∀ (n : Nat) {vs : List V} {ds : List D}, RepL F vs ds → RepL F (vs.take n) (ds.take n)
  | 0, _, _, h => RepL.nil
  | n + 1, vs, [], h => by unfold RepL at h; subst h; exact RepL.nil
  | n + 1, vs, d :: ds, h => by
    unfold RepL at h
    obtain ⟨v, r, rfl, h1, h2⟩ := h
    exact RepL.cons h1 (RepL.take n h2)
theorem cutV_rep {F : Gh} {vs : List V} {ds : List D} (h : RepL F vs ds) (lo hi : Option Int) : RepL F (cutV vs lo hi) (cut ds lo hi) := by
  unfold cutV cut
  rw [h.len]
  exact (h.drop _).take _
/-- a slice by data -/
theorem sl_ok : SlR X (fun x lo hi H Q => ∃ (F : Gh) (ms : List Addr) (st : Loc) (a d : D), SRel F ms st H ∧ Pk F H x a ∧ slD a lo hi = some d ∧ Kd F ms st H Q d) := by
  intro pins s σ H x v vl vu lo hi sl Q I rx hs pl pu h
  obtain ⟨F, ms, st, a, d, S, P, e, k⟩ := h
  cases a <;> first | (simp [slD] at e; done) | skip
  · rename_i z
    have e2 : (if z.length ≤ 16777216 then some (D.str (cut z lo hi)) else none) = some d := e
    split at e2
    · rename_i hz
      cases e2
      cases (show x = V.str (sx z) from P)
      refine sl_str pins s σ H _ v vl vu lo hi sl Q I rx hs pl pu ⟨_, rfl, by rw [len_sx, line_eq]; exact hz, k.here S ?_⟩
      show V.str (cutS (sx z) lo hi) = V.str (sx (cut z lo hi))
      unfold cutS cut
      rw [len_sx]
    · cases e2
  · rename_i ds
    cases (show some (D.tup (cut ds lo hi)) = some d from e)
    obtain ⟨p, vs, rfl, hp, hl, hF⟩ := P
    refine sl_tupA pins s σ H _ v vl vu lo hi sl Q I rx hs pl pu ⟨p, vs, rfl, .inl hp, fun hw => ?_, fun _ r hr => k.tup S (cutV_rep hl lo hi) hr⟩
    have e3 : cut ds lo hi = ds := by
      unfold cut
      rw [← hl.len, hw.1, hw.2]
      rw [List.drop_zero, Nat.sub_zero, hl.len, List.take_length]
    rw [e3] at k
    exact k.here S (by unfold Rep; exact ⟨p, vs, rfl, hF, hl⟩)
  · rename_i ds
    cases (show some (D.lst (cut ds lo hi)) = some d from e)
    obtain ⟨p, vs, rfl, hp, hl⟩ := P
    exact sl_list pins s σ H _ v vl vu lo hi sl Q I rx hs pl pu ⟨p, vs, rfl, .inl hp, fun r hr => k.lst S (cutV_rep hl lo hi) hr⟩

/-! built-in functions -/
theorem kit_b (t : Ty) (h : ∀ c, t ≠ .cls c) : True := trivial
def tyName : Ty → String
  | .str => "str" | .bool => "bool" | .int => "int" | .lst => "list" | .tup => "tuple" | .cls _ => ""
/-- a value's type by data -/
theorem ty_pk {F : Gh} {H : Hp} {K : PySem.W.Frag} {x : V} {d : D} (P : Pk F H x d) (nd : ∀ c ds, d ≠ .ins c ds) : ∃ n, TyX K H x (.type n) ∧ match d with
    | .non => n = "NoneType" | .bl _ => n = "bool" | .int _ => n = "int" | .str _ => n = "str" | .tup _ => n = "tuple" | .lst _ => n = "list" | .dct _ => n = "dict" | .ins _ _ => n = "" := by
  cases d with
  | non => cases (show x = V.non from P); exact ⟨_, .base .non, rfl⟩
  | bl b => cases (show x = V.bl b from P); exact ⟨_, .base (.bl b), rfl⟩
  | int i => cases (show x = V.int i from P); exact ⟨_, .base (.int i), rfl⟩
  | str z => cases (show x = V.str (sx z) from P); exact ⟨_, .base (.str _), rfl⟩
  | tup ds =>
    obtain ⟨p, vs, rfl, hp, _⟩ := P
    rcases hp with hp | ⟨o, hp⟩
    · exact ⟨_, .base (.tup hp), rfl⟩
    · exact ⟨_, .fTuple hp, rfl⟩
  | lst ds =>
    obtain ⟨p, vs, rfl, hp, _⟩ := P
    rcases hp with hp | ⟨o, hp⟩
    · exact ⟨_, .base (.lst hp), rfl⟩
    · exact ⟨_, .base (.frz hp), rfl⟩
  | dct ds =>
    obtain ⟨_, p, rfl, hp⟩ := P
    rcases hp with hp | ⟨o, hp⟩
    · exact ⟨_, .base (.dK hp), rfl⟩
    · exact ⟨_, .fDict hp, rfl⟩
  | ins c ds => exact absurd rfl (nd c ds)
theorem kitB_all : ∀ a ∈ ["NoneType", "bool", "int", "str", "tuple", "list", "dict"], ∀ b ∈ ["str", "bool", "int", "list", "tuple"], kitB a b = some (a == b || (a == "bool" && b == "int")) := by decide +kernel
theorem isi_ok {t : Ty} {d : D} {b : Bool} (e : isTy t d = some b) : CallR X (.builtin "isinstance") (fun xs H Q => ∃ (x : V) (F : Gh), xs = [x, .ty (tyName t)] ∧ Pk F H x d ∧ Q (.bl b) H) := by
  intro pins s σ H xs us Q I r h
  obtain ⟨x, F, rfl, P, q⟩ := h
  obtain ⟨n, ty, hn⟩ := ty_pk (K := X.K) P fun c ds z => by subst z; cases t <;> simp [isTy] at e
  have key : kitB n (tyName t) = some b := by
    cases t <;> cases d <;> first | (simp [isTy] at e; done) | (cases e; subst hn; first | rfl | exact kitB_all _ (by simp) _ (by simp [tyName]))
  exact call_isi pins s σ H _ us Q I r ⟨x, _, _, _, b, rfl, .ty _, ty, kit_ty key, q⟩
/-- a function of one value, by data -/
def FnD (X : Cx) (f : Value) (g : D → Option D) : Prop :=
  CallR X f (fun xs H Q => ∃ (x : V) (F : Gh) (ms : List Addr) (st : Loc) (a d : D), xs = [x] ∧ SRel F ms st H ∧ Pk F H x a ∧ g a = some d ∧ Kd F ms st H Q d)
theorem fd_len : FnD X (.builtin "len") (biD .len) := by
  intro pins s σ H xs us Q I r h
  obtain ⟨x, F, ms, st, a, d, rfl, S, P, e, k⟩ := h
  cases a with
  | str z =>
    cases (show x = V.str (sx z) from P)
    have e2 : (if z.length ≤ 16777216 then some (D.int z.length) else none) = some d := e
    split at e2
    · rename_i hz
      cases e2
      refine call_len pins s σ H _ us Q I r ⟨_, z.length, rfl, ⟨by rw [len_sx, line_eq]; exact hz, (len_sx z).symm⟩, k.here S rfl⟩
    · cases e2
  | lst ds =>
    cases (show some (D.int ds.length) = some d from e)
    obtain ⟨p, vs, rfl, hp, hl⟩ := P
    refine call_len_seq pins s σ H _ us Q I r ⟨p, vs, rfl, .inl (.inl hp), ?_⟩
    rw [hl.len]
    exact k.here S rfl
  | tup ds =>
    cases (show some (D.int ds.length) = some d from e)
    obtain ⟨p, vs, rfl, hp, hl, _⟩ := P
    refine call_len_seq pins s σ H _ us Q I r ⟨p, vs, rfl, .inr (.inl hp), ?_⟩
    rw [hl.len]
    exact k.here S rfl
  | non => simp [biD] at e
  | bl _ => simp [biD] at e
  | int _ => simp [biD] at e
  | dct _ => simp [biD] at e
  | ins _ _ => simp [biD] at e
theorem fd_abs : FnD X (.builtin "abs") (biD .abs) := by
  intro pins s σ H xs us Q I r h
  obtain ⟨x, F, ms, st, a, d, rfl, S, P, e, k⟩ := h
  cases a <;> first | (simp [biD] at e; done) | skip
  rename_i i
  cases (show x = V.int i from P)
  cases (show some (D.int (if i < 0 then -i else i)) = some d from e)
  exact call_abs pins s σ H _ us Q I r ⟨i, rfl, k.here S rfl⟩
theorem fd_int : FnD X (.type "int") (biD .int) := by
  intro pins s σ H xs us Q I r h
  obtain ⟨x, F, ms, st, a, d, rfl, S, P, e, k⟩ := h
  cases a <;> first | (simp [biD] at e; done) | skip
  · rename_i b
    cases (show x = V.bl b from P)
    cases (show some (D.int (if b then 1 else 0)) = some d from e)
    exact call_int1 pins s σ H _ us Q I r (.inr ⟨b, rfl, k.here S rfl⟩)
  · rename_i i
    cases (show x = V.int i from P)
    cases (show some (D.int i) = some d from e)
    exact call_int1 pins s σ H _ us Q I r (.inl ⟨i, rfl, k.here S rfl⟩)

theorem fd_tup : FnD X (.type "tuple") (biD .tup) := by
  intro pins s σ H xs us Q I r h
  obtain ⟨x, F, ms, st, a, d, rfl, S, P, e, k⟩ := h
  cases a <;> first | (simp [biD] at e; done) | skip
  · rename_i ds
    cases (show some (D.tup ds) = some d from e)
    obtain ⟨p, vs, rfl, hp, hl, hF⟩ := P
    exact call_tuple_of pins s σ H _ us Q I r ⟨p, vs, rfl, .inr ⟨.inl hp, k.here S ⟨p, vs, rfl, hF, hl⟩⟩⟩
  · rename_i ds
    cases (show some (D.tup ds) = some d from e)
    obtain ⟨p, vs, rfl, hp, hl⟩ := P
    exact call_tuple_of pins s σ H _ us Q I r ⟨p, vs, rfl, .inl ⟨.inl hp, fun q hq => k.tup S hl hq⟩⟩
theorem fd_lst : FnD X (.type "list") (biD .lst) := by
  intro pins s σ H xs us Q I r h
  obtain ⟨x, F, ms, st, a, d, rfl, S, P, e, k⟩ := h
  cases a <;> first | (simp [biD] at e; done) | skip
  · rename_i ds
    cases (show some (D.lst ds) = some d from e)
    obtain ⟨p, vs, rfl, hp, hl, hF⟩ := P
    exact call_list_of pins s σ H _ us Q I r ⟨p, vs, rfl, .inr (.inl hp), fun q hq => k.lst S hl hq⟩
  · rename_i ds
    cases (show some (D.lst ds) = some d from e)
    obtain ⟨p, vs, rfl, hp, hl⟩ := P
    exact call_list_of pins s σ H _ us Q I r ⟨p, vs, rfl, .inl (.inl hp), fun q hq => k.lst S hl hq⟩

/-! methods of texts -/
/-- a method by data: the receiver, the arguments -/
def MtD (X : Cx) (id : String) (g : D → List D → Option D) : Prop :=
  MtR X id (fun x xs H Q => ∃ (F : Gh) (ms : List Addr) (st : Loc) (a : D) (bs : List D) (d : D), SRel F ms st H ∧ Pk F H x a ∧ Paired (Pk F H) xs bs ∧ g a bs = some d ∧ Kd F ms st H Q d)
theorem unStr_rep {F : Gh} : ∀ {ds : List D} {vs : List V} {xs : List Tx}, RepL F vs ds → unStr ds = some xs → vs = (xs.map sx).map V.str
  | [], _, xs, h, e => by
    unfold RepL at h; subst h
    cases (show some [] = some xs from e)
    rfl
  | d :: ds, _, xs, h, e => by
    unfold RepL at h
    obtain ⟨v, r, rfl, h1, h2⟩ := h
    cases d <;> first | (simp [unStr] at e; done) | skip
    rename_i z
    cases q : unStr ds with
    | none => simp [unStr, q] at e
    | some ys =>
      have e2 : xs = z :: ys := by simpa [unStr, q] using e.symm
      subst e2
      cases (show v = V.str (sx z) from h1)
      rw [unStr_rep h2 q]
      rfl
theorem map_tl_sx (xs : List Tx) : (xs.map sx).map TL.tl = xs := by
  rw [List.map_map]
  have : (TL.tl ∘ sx) = id := by funext z; rfl
  rw [this, List.map_id]
theorem strs_rep {F : Gh} : ∀ (xs : List Tx), RepL F ((xs.map sx).map V.str) (xs.map .str)
  | [] => RepL.nil
  | x :: xs => RepL.cons rfl (strs_rep xs)
theorem strs_of_tl {ys : List Str} {xs : List Tx} (h : ys.map TL.tl = xs) : ys = xs.map sx := by
  subst h
  rw [List.map_map]
  have : (sx ∘ TL.tl) = id := by funext z; exact TL.mk_tl z
  rw [this, List.map_id]
theorem spl_le (p : Tx) : ∀ (k : Nat) (acc s : Tx), (TL.spl p k acc s).length ≤ s.length + 1 := by
  intro k acc s
  induction s generalizing k acc with
  | nil => rw [TL.spl_nil]; simp
  | cons c r ih =>
    cases k with
    | zero =>
      cases h : TL.pre p (c :: r) with
      | true => rw [TL.spl_hit h]; have := ih (p.length - 1) []; simp; omega
      | false => rw [TL.spl_miss h]; have := ih 0 (acc ++ [c]); simp; omega
    | succ k =>
      rw [TL.spl_pass]
      have e : (c :: r).drop (k + 1) = r.drop k := rfl
      rw [e, ← TL.spl_pass]
      have := ih k acc; simp; omega
theorem md_split : MtD X "str.split" (smD .split) := by
  intro pins s σ H x xs v us Q I rx rs h
  obtain ⟨F, ms, st, a, bs, d, S, P, ps, e, k⟩ := h
  unfold smD at e
  split at e <;> first | (rename_i hh; cases hh; done) | skip
  · rename_i z p _
    split at e
    · rename_i hc
      obtain ⟨h1, h2, h3⟩ := hc
      cases e
      cases (show x = V.str (sx z) from P)
      cases ps with
      | cons p1 p2 =>
        cases p2
        rename_i y
        cases (show y = V.str (sx p) from p1)
        refine mt_split pins s σ H _ _ v us Q I rx rs ⟨sx z, sx p, rfl, rfl, ?_, ?_, fun r hr => ?_⟩
        · rw [len_sx]; cases p with
          | nil => exact absurd rfl h1
          | cons c t => rfl
        · rw [len_sx, line_eq]; exact h2
        · have e1 := TL.split_spl (sx z) (sx p) h1 (TL.kind_ok (by simpa [sx] using h3))
          have e2 := strs_of_tl e1
          rw [e2]
          exact k.lst S (strs_rep _) hr
    · cases e
  all_goals cases e
theorem lens_sx (n : Nat) (xs : List Tx) : ((xs.map sx).map (·.length)).sum + (xs.map sx).length * n = (xs.map List.length).sum + xs.length * n := by
  rw [List.map_map, List.length_map]
  have : ((fun (z : Str) => z.length) ∘ sx) = List.length := by funext z; exact len_sx z
  rw [this]
theorem md_join : MtD X "str.join" (smD .join) := by
  intro pins s σ H x xs v us Q I rx rs h
  obtain ⟨F, ms, st, a, bs, d, S, P, ps, e, k⟩ := h
  unfold smD at e
  split at e <;> first | (rename_i hh; cases hh; done) | skip
  · rename_i z ds _
    cases q : unStr ds with
    | none => rw [q] at e; cases e
    | some ys =>
      rw [q] at e
      have e2 : (if (ys.map List.length).sum + ys.length * z.length ≤ 16777216 then some (D.str (TL.joinL z ys)) else none) = some d := e
      split at e2
      · rename_i hc
        cases e2
        cases (show x = V.str (sx z) from P)
        cases ps with
        | cons p1 p2 =>
          cases p2
          obtain ⟨b, vs, rfl, hb, hl, _⟩ := p1
          have ev := unStr_rep hl q
          subst ev
          refine mt_join pins s σ H _ _ v us Q I rx rs ⟨sx z, b, ys.map sx, rfl, rfl, .inr (.inl hb), ?_, k.here S ?_⟩
          · rw [lens_sx, len_sx]; exact hc
          · show V.str _ = V.str _
            congr 1
            apply TL.ext_tl
            rw [TL.join_eq, TL.tl_join, map_tl_sx]
      · cases e2
  · rename_i z ds _
    cases q : unStr ds with
    | none => rw [q] at e; cases e
    | some ys =>
      rw [q] at e
      have e2 : (if (ys.map List.length).sum + ys.length * z.length ≤ 16777216 then some (D.str (TL.joinL z ys)) else none) = some d := e
      split at e2
      · rename_i hc
        cases e2
        cases (show x = V.str (sx z) from P)
        cases ps with
        | cons p1 p2 =>
          cases p2
          obtain ⟨b, vs, rfl, hb, hl⟩ := p1
          have ev := unStr_rep hl q
          subst ev
          refine mt_join pins s σ H _ _ v us Q I rx rs ⟨sx z, b, ys.map sx, rfl, rfl, .inl (.inl hb), ?_, k.here S ?_⟩
          · rw [lens_sx, len_sx]; exact hc
          · show V.str _ = V.str _
            congr 1
            apply TL.ext_tl
            rw [TL.join_eq, TL.tl_join, map_tl_sx]
      · cases e2
  all_goals cases e
theorem case_sx {z : Tx} (h : z.all (· < 128) = true) : ∀ c ∈ (sx z).cps.toList, c < 128 := fun c hc => by
  have := List.all_eq_true.mp h c hc
  simpa using this
theorem md_lower : MtD X "str.lower" (smD .lower) := by
  intro pins s σ H x xs v us Q I rx rs h
  obtain ⟨F, ms, st, a, bs, d, S, P, ps, e, k⟩ := h
  unfold smD at e
  split at e <;> first | (rename_i hh; cases hh; done) | skip
  · rename_i z _
    split at e
    · rename_i hc
      cases e
      cases (show x = V.str (sx z) from P)
      cases ps
      refine mt_lower pins s σ H _ _ v us Q I rx rs ⟨sx z, rfl, rfl, by rw [len_sx]; exact hc.1, k.here S ?_⟩
      show V.str _ = V.str _
      rw [PyProof.Rows.lower_ascii (case_sx hc.2)]
      congr 1
      apply TL.ext_tl
      show ((sx z).cps.map PyProof.Rows.lo1).toList = z.map lowC
      rw [Array.toList_map]
      rfl
    · cases e
  all_goals cases e
theorem md_upper : MtD X "str.upper" (smD .upper) := by
  intro pins s σ H x xs v us Q I rx rs h
  obtain ⟨F, ms, st, a, bs, d, S, P, ps, e, k⟩ := h
  unfold smD at e
  split at e <;> first | (rename_i hh; cases hh; done) | skip
  · rename_i z _
    split at e
    · rename_i hc
      cases e
      cases (show x = V.str (sx z) from P)
      cases ps
      refine mt_upper pins s σ H _ _ v us Q I rx rs ⟨sx z, rfl, rfl, by rw [len_sx]; exact hc.1, k.here S ?_⟩
      show V.str _ = V.str _
      rw [PyProof.Rows.upper_ascii (case_sx hc.2)]
      congr 1
      apply TL.ext_tl
      show ((sx z).cps.map PyProof.Rows.up1).toList = z.map uppC
      rw [Array.toList_map]
      rfl
    · cases e
  all_goals cases e
theorem first_some (p : Tx) : ∀ (l : Tx) (k j : Nat), p ≠ [] → (∀ i, i < j → TL.pre p (l.drop i) = false) → TL.pre p (l.drop j) = true → firstAt p k l = some (k + j)
  | [], k, j, hp, _, h => by
    rw [List.drop_nil, TL.pre_nil hp] at h; cases h
  | c :: r, k, 0, hp, _, h => by
    unfold firstAt
    rw [if_pos (show TL.pre p (c :: r) = true from h)]; rfl
  | c :: r, k, j + 1, hp, hn, h => by
    unfold firstAt
    have h0 := hn 0 (Nat.succ_pos _)
    rw [if_neg (by rw [show (c :: r) = (c :: r).drop 0 from rfl, h0]; exact Bool.false_ne_true)]
    rw [first_some p r (k + 1) j hp (fun i hi => hn (i + 1) (Nat.succ_lt_succ hi)) h]
    congr 1; omega
theorem first_none (p : Tx) : ∀ (l : Tx) (k : Nat), p ≠ [] → (∀ i, TL.pre p (l.drop i) = false) → firstAt p k l = none
  | [], k, hp, _ => rfl
  | c :: r, k, hp, hn => by
    unfold firstAt
    have h0 := hn 0
    rw [if_neg (by rw [show (c :: r) = (c :: r).drop 0 from rfl, h0]; exact Bool.false_ne_true)]
    exact first_none p r (k + 1) hp fun i => hn (i + 1)
theorem occ_first0 (z p : Tx) (hp : p ≠ []) : (Builtin.Str.occurrences (sx z) (sx p) 0 (sx z).length 1).head? = firstAt p 0 z := by
  rcases StrLaws.occ_head (sx z) (sx p) 1 (Nat.le_refl _) with ⟨e, h⟩ | ⟨i, r, e, h, hn⟩
  · rw [e, first_none p z 0 hp fun i => TL.no_at (x := sx z) (y := sx p) hp (h i)]
    rfl
  · rw [e, first_some p z 0 i hp (fun k hk => TL.no_at (x := sx z) (y := sx p) hp (hn k hk)) ((TL.at_iff (x := sx z) (y := sx p) hp i).mp h)]
    simp
theorem md_index : MtD X "str.index" (smD .index) := by
  intro pins s σ H x xs v us Q I rx rs h
  obtain ⟨F, ms, st, a, bs, d, S, P, ps, e, k⟩ := h
  unfold smD at e
  split at e <;> first | (rename_i hh; cases hh; done) | skip
  · rename_i z p _
    split at e
    · rename_i hp
      cases q : firstAt p 0 z with
      | none => rw [q] at e; cases e
      | some j =>
        rw [q] at e; cases e
        cases (show x = V.str (sx z) from P)
        cases ps with
        | cons p1 p2 =>
          cases p2
          rename_i y
          cases (show y = V.str (sx p) from p1)
          obtain ⟨t, rfl⟩ := rx
          cases rs with
          | cons r1 rs =>
            cases rs
            obtain ⟨u, rfl⟩ := r1
            have o := occ_first0 z p hp
            rw [q] at o
            cases q2 : Builtin.Str.occurrences (sx z) (sx p) 0 (sx z).length 1 with
            | nil => rw [q2] at o; cases o
            | cons i r =>
              rw [q2] at o
              cases o
              exact PySem.SC.index q2 ⟨.int (j : Nat), H, I.tok _, ⟨_, rfl⟩, k.here S rfl⟩
    · cases e
  all_goals cases e
theorem occ_from (z p : Tx) (i : Nat) (hp : p ≠ []) : (Builtin.Str.occurrences (sx z) (sx p) i (sx z).length 1).head? = firstAt p i (z.drop i) := by
  rcases StrLaws.occ_head_from (sx z) (sx p) i 1 (Nat.le_refl _) with ⟨e, h⟩ | ⟨j, r, e, hij, h, hn⟩
  · rw [e, first_none p (z.drop i) i hp fun k => by
      rw [List.drop_drop]
      exact TL.no_at (x := sx z) (y := sx p) hp (h _ (by omega))]
    rfl
  · rw [e, first_some p (z.drop i) i (j - i) hp (fun k hk => by
      rw [List.drop_drop]
      exact TL.no_at (x := sx z) (y := sx p) hp (hn _ (by omega) (by omega))) (by
      rw [List.drop_drop]
      have : i + (j - i) = j := by omega
      rw [this]
      exact (TL.at_iff (x := sx z) (y := sx p) hp j).mp h)]
    simp; omega
theorem md_find : MtD X "str.find" (smD .find) := by
  intro pins s σ H x xs v us Q I rx rs h
  obtain ⟨F, ms, st, a, bs, d, S, P, ps, e, k⟩ := h
  unfold smD at e
  split at e <;> first | (rename_i hh; cases hh; done) | skip
  · rename_i z p _
    split at e
    · rename_i hp
      cases e
      cases (show x = V.str (sx z) from P)
      cases ps with
      | cons p1 p2 =>
        cases p2
        rename_i y
        cases (show y = V.str (sx p) from p1)
        refine mt_find pins s σ H _ _ v us Q I rx rs ⟨sx z, sx p, rfl, rfl, ?_⟩
        have o := occ_first0 z p hp
        have ef : Txt.find (sx z) (sx p) = match firstAt p 0 z with
          | some k => (k : Int)
          | none => -1 := by
          unfold Txt.find
          rw [← o]
          cases Builtin.Str.occurrences (sx z) (sx p) 0 (sx z).length 1 <;> rfl
        rw [ef]
        exact k.here S rfl
    · cases e
  · rename_i z p i _
    split at e
    · rename_i hp
      cases e
      cases (show x = V.str (sx z) from P)
      cases ps with
      | cons p1 p2 =>
        rename_i y ys
        cases (show y = V.str (sx p) from p1)
        cases p2 with
        | cons q1 q2 =>
          cases q2
          rename_i y2
          cases (show y2 = V.int i from q1)
          refine mt_find3 pins s σ H _ _ v us Q I rx rs ⟨sx z, sx p, i, rfl, rfl, ?_⟩
          have hi : PySem.fromIndex (sx z).length i = i.toNat := by
            unfold PySem.fromIndex
            rw [if_neg (by omega)]
            omega
          have o := occ_from z p i.toNat hp.1
          have ef : Txt.find3 (sx z) (sx p) i = match firstAt p i.toNat (z.drop i.toNat) with
            | some k => (k : Int)
            | none => -1 := by
            unfold Txt.find3
            rw [hi, ← o]
            cases Builtin.Str.occurrences (sx z) (sx p) i.toNat (sx z).length 1 <;> rfl
          rw [ef]
          exact k.here S rfl
    · cases e
  all_goals cases e
theorem md_partition : MtD X "str.partition" (smD .partition) := by
  intro pins s σ H x xs v us Q I rx rs h
  obtain ⟨F, ms, st, a, bs, d, S, P, ps, e, k⟩ := h
  unfold smD at e
  split at e <;> first | (rename_i hh; cases hh; done) | skip
  · rename_i z p _
    split at e
    · rename_i hp
      cases e
      cases (show x = V.str (sx z) from P)
      cases ps with
      | cons p1 p2 =>
        cases p2
        rename_i y
        cases (show y = V.str (sx p) from p1)
        refine mt_partition pins s σ H _ _ v us Q I rx rs ⟨sx z, sx p, rfl, rfl, ?_, ?_, fun q hq => ?_⟩
        · rw [len_sx]; cases p with
          | nil => exact absurd rfl hp.1
          | cons c t => rfl
        · rw [len_sx, line_eq]; exact hp.2
        · have e0 := TL.partition_par (sx z) (sx p) hp.1
          refine k.tup S ?_ hq
          cases hpar : TL.par p [] z with
          | none =>
            have e2 : TL.par (TL.tl (sx p)) [] (TL.tl (sx z)) = none := hpar
            rw [e2] at e0
            rw [e0]
            exact RepL.cons rfl (RepL.cons rfl (RepL.cons rfl RepL.nil))
          | some r =>
            obtain ⟨a, b⟩ := r
            have e2 : TL.par (TL.tl (sx p)) [] (TL.tl (sx z)) = some (a, b) := hpar
            rw [e2] at e0
            rw [e0]
            exact RepL.cons rfl (RepL.cons rfl (RepL.cons rfl RepL.nil))
    · cases e
  all_goals cases e
theorem md_starts : MtD X "str.startswith" (smD .starts) := by
  intro pins s σ H x xs v us Q I rx rs h
  obtain ⟨F, ms, st, a, bs, d, S, P, ps, e, k⟩ := h
  unfold smD at e
  split at e <;> first | (rename_i hh; cases hh; done) | skip
  · rename_i z p _
    split at e
    · rename_i hp
      cases e
      cases (show x = V.str (sx z) from P)
      cases ps with
      | cons p1 p2 =>
        cases p2
        rename_i y
        cases (show y = V.str (sx p) from p1)
        refine mt_startswith pins s σ H _ _ v us Q I rx rs ⟨sx z, sx p, rfl, rfl, ?_⟩
        have ef : Txt.startswith (sx z) (sx p) = TL.pre p z := by
          have h1 := TL.at_iff (x := sx z) (y := sx p) hp 0
          unfold Txt.startswith
          rw [Bool.eq_iff_iff, Bool.and_eq_true, decide_eq_true_iff]
          exact h1
        rw [ef]
        exact k.here S rfl
    · cases e
  all_goals cases e
theorem md_ends : MtD X "str.endswith" (smD .ends) := by
  intro pins s σ H x xs v us Q I rx rs h
  obtain ⟨F, ms, st, a, bs, d, S, P, ps, e, k⟩ := h
  unfold smD at e
  split at e <;> first | (rename_i hh; cases hh; done) | skip
  · rename_i z p _
    split at e
    · rename_i hp
      cases e
      cases (show x = V.str (sx z) from P)
      cases ps with
      | cons p1 p2 =>
        cases p2
        rename_i y
        cases (show y = V.str (sx p) from p1)
        refine mt_endswith pins s σ H _ _ v us Q I rx rs ⟨sx z, sx p, rfl, rfl, ?_⟩
        have ef : Txt.endswith (sx z) (sx p) = (decide (p.length ≤ z.length) && TL.pre p (z.drop (z.length - p.length))) := by
          have h1 := TL.at_iff (x := sx z) (y := sx p) hp (z.length - p.length)
          unfold Txt.endswith
          have e1 := len_sx z
          have e2 := len_sx p
          rw [e1, e2, Bool.eq_iff_iff, Bool.and_eq_true, Bool.and_eq_true, decide_eq_true_iff, decide_eq_true_iff]
          constructor
          · intro ⟨a1, a2⟩
            exact ⟨by omega, h1.mp ⟨by rw [e1, e2]; omega, a2⟩⟩
          · intro ⟨a1, a2⟩
            exact ⟨by omega, (h1.mpr a2).2⟩
        rw [ef]
        exact k.here S rfl
    · cases e
  all_goals cases e
theorem cnt_count (c : Nat) : ∀ z : Tx, PyProof.Rows.cnt c z = ((z.count c : Nat) : Int)
  | [] => rfl
  | x :: r => by
    rw [PyProof.Rows.cnt_cons, cnt_count c r, List.count_cons]
    by_cases h : x = c <;> simp [h]
    omega
theorem md_count : MtD X "str.count" (smD .count) := by
  intro pins s σ H x xs v us Q I rx rs h
  obtain ⟨F, ms, st, a, bs, d, S, P, ps, e, k⟩ := h
  unfold smD at e
  split at e <;> first | (rename_i hh; cases hh; done) | skip
  · rename_i z c _
    cases e
    cases (show x = V.str (sx z) from P)
    cases ps with
    | cons p1 p2 =>
      cases p2
      rename_i y
      cases (show y = V.str (sx [c]) from p1)
      refine mt_count pins s σ H _ _ v us Q I rx rs ⟨sx z, sx [c], rfl, rfl, ?_⟩
      have e1 : Txt.count (sx z) (sx [c]) = z.count c := by
        rw [show sx [c] = (⟨#[c]⟩ : Str) from rfl, PyProof.Rows.count_cnt]
        exact cnt_count c z
      rw [e1]
      exact k.here S rfl
  all_goals cases e
theorem md_rstrip : MtD X "str.rstrip" (smD .rstrip) := by
  intro pins s σ H x xs v us Q I rx rs h
  obtain ⟨F, ms, st, a, bs, d, S, P, ps, e, k⟩ := h
  unfold smD at e
  split at e <;> first | (rename_i hh; cases hh; done) | skip
  · rename_i z p _
    split at e
    · rename_i hz
      cases e
      cases (show x = V.str (sx z) from P)
      cases ps with
      | cons p1 p2 =>
        cases p2
        rename_i y
        cases (show y = V.str (sx p) from p1)
        refine mt_rstripChars pins s σ H _ _ v us Q I rx rs ⟨sx z, sx p, rfl, rfl, by rw [len_sx]; exact hz, ?_⟩
        exact k.here S (by show V.str _ = V.str _; congr 1)
    · cases e
  all_goals cases e
theorem md_rpart : MtD X "str.rpartition" (smD .rpart) := by
  intro pins s σ H x xs v us Q I rx rs h
  obtain ⟨F, ms, st, a, bs, d, S, P, ps, e, k⟩ := h
  unfold smD at e
  split at e <;> first | (rename_i hh; cases hh; done) | skip
  · rename_i z p _
    split at e
    · rename_i hp
      cases e
      cases (show x = V.str (sx z) from P)
      cases ps with
      | cons p1 p2 =>
        cases p2
        rename_i y
        cases (show y = V.str (sx p) from p1)
        obtain ⟨t, rfl⟩ := rx
        cases rs with
        | cons r1 rs =>
          cases rs
          obtain ⟨u, rfl⟩ := r1
          have hb : ((sx p).length == 0) = false := by
            rw [len_sx]; cases p with
            | nil => exact absurd rfl hp.1
            | cons c t => rfl
          refine call_meets PySem.F.slot_str_rpartition (typeIs_str _ _ _) PySem.F.entry_str_rpartition (PySem.F.args_str_rpartition_2 _ _) (meets_str_rpartition (sx z) (sx p) t u hb (by rw [len_sx]; exact hp.2)) ?_
          have fin : ∀ q, H q = none → Q (.ref q) (upd H q (.tup [.str (Txt.rpartition (sx z) (sx p)).1, .str (Txt.rpartition (sx z) (sx p)).2.1, .str (Txt.rpartition (sx z) (sx p)).2.2])) := fun q hq =>
            k.tup S (RepL.cons (by show V.str _ = V.str _; congr 1) (RepL.cons (by show V.str _ = V.str _; congr 1) (RepL.cons (by show V.str _ = V.str _; congr 1) RepL.nil))) hq
          unfold Txt.rpartition at fin
          revert fin
          cases Builtin.Str.lastOccurrence (sx z) (sx p) 0 (sx z).length with
          | none => intro fin; exact laid_parts I fin
          | some i => intro fin; exact laid_parts I fin
    · cases e
  all_goals cases e
/-- a list of data and an item, read -/
theorem lst_reads {pins : List (Addr × PySem.Obj)} {s : Shared} {σ : L2.St} {H : Hp} {F : Gh} {ms : List Addr} {st : Loc} {x y : V} {u : Value} {ds : List D} {d : D} (hu : X.A.units + 64 < cLine) (I : Inv X pins σ H s) (S : SRel F ms st H) (P : Pk F H x (.lst ds)) (Py : Pk F H y d) (ry : RelV y u) (h1 : okL 12 ds = true) (h2 : okD 12 d = true) :
    ∃ (a : Addr) (its : List Value) (n : Nat) (dd : Option Addr) (sl : Array (Option Value)), x = .ref a ∧ s.heap.get? a = some { cls := .type "list", dict := dd, data := .seq its.toArray n, slots := sl } ∧ its.map (SeqAt.readOf s.heap) = toPyL ds ∧ its.length = ds.length ∧
      ∀ z, z ∈ its.toArray → SeqAt.EqAt X.A.in1 s z u (PyData.eqv (SeqAt.readOf s.heap z) (toPy d)) := by
  obtain ⟨a, vs, rfl, hp, hl⟩ := P
  obtain ⟨bs, r1⟩ := Dp.reads I (toPy d) y u (dp_pk S.le h2 Py) ry
  obtain ⟨its, rv, ⟨⟨cls, dd, data, sl⟩, n, ho, hc, hdn, hdt⟩, hlen⟩ := I.list (.inl hp)
  simp only at hc hdt
  subst hc hdt
  obtain ⟨as, h4⟩ := Dp.readsAll I (toPyL ds) _ its (dp_repL S.le 12 ds vs h1 hl) rv
  refine ⟨a, its, n, dd, sl, rfl, ho, SeqAt.readsAll_map_plain _ _ _ (py_plainL ds) h4, ?_, SeqAt.items_plain (vs := its.toArray) (show ReadsAll s.heap its.toArray.toList (toPyL ds) as from h4) r1 (py_plainL ds) (py_plain d) (depthL_le (py_depthL 12 ds h1) hu)⟩
  have e1 := rv.length
  have e2 := hl.len
  omega
theorem toPyL_map : ∀ ds : List D, toPyL ds = ds.map toPy
  | [] => rfl
  | d :: ds => by rw [toPyL, List.map_cons, toPyL_map ds]
theorem cnt_py {d : D} (h' : okD 12 d = true) : ∀ (ds : List D) (k : Nat), okL 12 ds = true → ((ds.map toPy).countP fun y => y.eqv (toPy d)) = cntD d ds
  | [], _, _ => rfl
  | x :: ds, k, h => by
    have h1 : okD 12 x = true ∧ okL 12 ds = true := by simpa [okL] using h
    rw [List.map_cons, List.countP_cons, cnt_py h' ds k h1.2, py_eqv 12 12 x d h1.1 h']
    conv => rhs; unfold cntD
    split <;> omega
theorem md_lcount (hu : X.A.units + 64 < cLine) : MtD X "list.count" (smD .lcount) := by
  intro pins s σ H x xs v us Q I rx rs h
  obtain ⟨F, ms, st, a, bs, d, S, P, ps, e, k⟩ := h
  unfold smD at e
  split at e <;> first | (rename_i hh; cases hh; done) | skip
  · rename_i ds y _
    split at e
    · rename_i hc
      cases e
      obtain ⟨h1, h2⟩ := Bool.and_eq_true_iff.mp hc
      cases ps with
      | cons p1 p2 =>
        cases p2
        cases rs with
        | cons r1 rs =>
          cases rs
          obtain ⟨a, its, n, dd, sl, rfl, ho, hm, hl, hi⟩ := lst_reads hu I S P p1 r1 h1 h2
          cases rx
          refine call_meets PySem.F.slot_list_count ⟨_, ho, rfl⟩ PySem.F.entry_list_count (PySem.F.args_list_count_2 _ _) (SeqAt.list_countAt a its.toArray n dd sl _ _) ⟨ho, hi, ?_⟩
          have ec : its.toArray.toList.countP (fun z => PyData.eqv (SeqAt.readOf s.heap z) (toPy y)) = cntD y ds := by
            have e1 : its.toArray.toList.countP (fun z => PyData.eqv (SeqAt.readOf s.heap z) (toPy y)) = (its.map (SeqAt.readOf s.heap)).countP fun w => w.eqv (toPy y) := by
              rw [List.countP_map]; rfl
            rw [e1, hm, toPyL_map]
            exact cnt_py h2 ds 0 h1
          rw [ec]
          exact ⟨.int (cntD y ds : Nat), H, I.tok _, ⟨_, rfl⟩, k.here S rfl⟩
    · cases e
  all_goals cases e
theorem ix_py {d : D} (h' : okD 12 d = true) : ∀ (ds : List D) (k j : Nat), okL 12 ds = true → ixD d k ds = some j → ∃ i, j = k + i ∧ (∃ x, ds[i]? = some x ∧ (toPy x).eqv (toPy d) = true) ∧ ∀ m, m < i → ∀ x, ds[m]? = some x → (toPy x).eqv (toPy d) = false
  | [], _, _, _, h => by cases h
  | x :: ds, k, j, h, e => by
    have h1 : okD 12 x = true ∧ okL 12 ds = true := by simpa [okL] using h
    have q := py_eqv 12 12 x d h1.1 h'
    unfold ixD at e
    split at e
    · rename_i z
      cases e
      exact ⟨0, rfl, ⟨x, rfl, by rw [q]; exact z⟩, fun m hm => absurd hm (by omega)⟩
    · rename_i z
      obtain ⟨i, e1, ⟨y, e2, e3⟩, e4⟩ := ix_py h' ds (k + 1) j h1.2 e
      refine ⟨i + 1, by omega, ⟨y, by simpa using e2, e3⟩, fun m hm y hy => ?_⟩
      cases m with
      | zero =>
        cases (show some x = some y from hy)
        rw [q]
        simpa using z
      | succ m => exact e4 m (by omega) y (by simpa using hy)
theorem md_lindex (hu : X.A.units + 64 < cLine) : MtD X "list.index" (smD .lindex) := by
  intro pins s σ H x xs v us Q I rx rs h
  obtain ⟨F, ms, st, a, bs, d, S, P, ps, e, k⟩ := h
  unfold smD at e
  split at e <;> first | (rename_i hh; cases hh; done) | skip
  · rename_i ds y _
    split at e
    · rename_i hc
      obtain ⟨h12, h3⟩ := Bool.and_eq_true_iff.mp hc
      obtain ⟨h1, h2⟩ := Bool.and_eq_true_iff.mp h12
      cases q : ixD y 0 ds with
      | none => rw [q] at e; cases e
      | some j =>
        rw [q] at e
        cases e
        obtain ⟨i, e1, ⟨z, e2, e3⟩, e4⟩ := ix_py h2 ds 0 j h1 q
        rw [Nat.zero_add] at e1
        subst e1
        cases ps with
        | cons p1 p2 =>
          cases p2
          cases rs with
          | cons r1 rs =>
            cases rs
            obtain ⟨a, its, n, dd, sl, rfl, ho, hm, hl, hi⟩ := lst_reads hu I S P p1 r1 h1 h2
            cases rx
            have hj : j < its.length := by rw [hl]; exact (List.getElem?_eq_some_iff.mp e2).1
            have hlen : ds.length ≤ 16777216 := Nat.le_of_ble_eq_true h3
            have at_ : ∀ (m : Nat) (hm' : m < its.length), ∃ x, ds[m]? = some x ∧ SeqAt.readOf s.heap its[m] = toPy x := by
              intro m hm'
              have hd : m < ds.length := by omega
              refine ⟨ds[m], List.getElem?_eq_getElem hd, ?_⟩
              have e5 : (its.map (SeqAt.readOf s.heap))[m]? = (toPyL ds)[m]? := by rw [hm]
              rw [toPyL_map, List.getElem?_map, List.getElem?_map, List.getElem?_eq_getElem hm', List.getElem?_eq_getElem hd] at e5
              simpa using e5
            refine call_meets PySem.F.slot_list_index ⟨_, ho, rfl⟩ PySem.F.entry_list_index (PySem.F.args_list_index_2 _ _)
              (SeqAt.list_indexAt a its.toArray n dd sl _ (fun z => PyData.eqv (SeqAt.readOf s.heap z) (toPy y)) j (by simpa using hj) (by omega) ?_ ?_) ⟨ho, hi, ?_⟩
            · obtain ⟨x, ex, er⟩ := at_ j hj
              rw [e2] at ex
              cases ex
              show PyData.eqv (SeqAt.readOf s.heap its.toArray[j]) (toPy y) = true
              have e6 : SeqAt.readOf s.heap its.toArray[j] = toPy z := by simpa using er
              rw [e6]
              exact e3
            · intro m hm' hmj
              have hm2 : m < its.length := by simpa using hm'
              obtain ⟨x, ex, er⟩ := at_ m hm2
              show PyData.eqv (SeqAt.readOf s.heap its.toArray[m]) (toPy y) = false
              have e6 : SeqAt.readOf s.heap its.toArray[m] = toPy x := by simpa using er
              rw [e6]
              exact e4 m hmj x ex
            · exact ⟨.int (j : Nat), H, I.tok _, ⟨_, rfl⟩, k.here S rfl⟩
    · cases e
  all_goals cases e
end
end Vx

set_option maxHeartbeats 4000000
/-! ### soundness: expressions -/
namespace Vx
open PySem PySem.Spec PyProof.Rows L2
variable [tb : Tbs]

/-- the program's tables: printed defs, names, where they stand -/
structure Tab where
  pt : Pt
  /-- a def's name, none for a method -/
  nm : List (Option Str)
  /-- how many of a def's parameters have None for default -/
  nd : Nat → Nat := fun _ => 0
  /-- names of fields, of methods, of own classes that are made -/
  fn : List Str := []
  mn : List Str := []
  /-- how many of a method's parameters may lack, whatever the class -/
  md : Nat → Nat := fun _ => 0
  kn : List Str := []
  ps : Nat → List Str
  con : Str → Option D
  cn : List Str
  fa : Nat → Addr
  fd : Nat → FuncData
  ca : Nat → Addr
  /-- dicts of the module with text keys -/
  tb : Str → Option (List (Tx × D)) := fun _ => none
  /-- within an except suite -/
  hot : Bool := false
  /-- lambdas may be handed -/
  ask : Bool := false
abbrev Tab.toHot (T : Tab) : Tab := { T with hot := true, ask := false }
abbrev Tab.plain (T : Tab) : Tab := { T with hot := false, ask := false }
abbrev Tab.dfs (T : Tab) : List Def := T.pt.dfs
abbrev Tab.sub (T : Tab) : Nat → Nat → Option Bool := T.pt.sub
section
variable [sp : Spv]

/-- what follows a run of the evaluator, from F, ms, H -/
def Fin {α : Type} (T : Tab) (E : XK) (F : Gh) (ms : List Addr) (H : Hp) (r : Res α) (K : α → Loc → Gh → List Addr → Hp → Prop) : Prop :=
  match r with
  | .ok a l => ∀ (F' : Gh) (ms' : List Addr) (H' : Hp), Stp F ms H F' ms' H' → SRel F' ms' l H' → K a l F' ms' H'
  | .exc c p l => p = .non → ∀ (F' : Gh) (ms' : List Addr) (H' : Hp), Stp F ms H F' ms' H' → SRel F' ms' l H' → E (.ref (T.ca c)) none H'
  | .bad => False
section
variable {α β : Type} {T : Tab} {E : XK} {F F1 : Gh} {ms ms1 : List Addr} {H H1 : Hp}
theorem Fin.shift {r : Res α} {K : α → Loc → Gh → List Addr → Hp → Prop} (t : Stp F ms H F1 ms1 H1) (h : Fin T E F ms H r K) : Fin T E F1 ms1 H1 r K := by
  cases r with
  | ok a l => exact fun F' ms' H' t' S => h F' ms' H' (t.trans t') S
  | exc c p l => exact fun e F' ms' H' t' S => h e F' ms' H' (t.trans t') S
  | bad => exact h
theorem Fin.mono {r : Res α} {K K' : α → Loc → Gh → List Addr → Hp → Prop} (h : Fin T E F ms H r K) (k : ∀ a l F' ms' H', Stp F ms H F' ms' H' → SRel F' ms' l H' → K a l F' ms' H' → K' a l F' ms' H') : Fin T E F ms H r K' := by
  cases r with
  | ok a l => exact fun F' ms' H' t' S => k a l F' ms' H' t' S (h F' ms' H' t' S)
  | exc c p l => exact h
  | bad => exact h
theorem Fin.bind {r : Res α} {f : α → Loc → Res β} {K : β → Loc → Gh → List Addr → Hp → Prop} (h : Fin T E F ms H (r.bind f) K) :
    Fin T E F ms H r (fun a l F' ms' H' => Fin T E F' ms' H' (f a l) K) := by
  cases r with
  | ok a l =>
    intro F' ms' H' t' S
    exact Fin.shift (r := f a l) t' h
  | exc c p l => exact h
  | bad => exact h
theorem Fin.here {a : α} {l : Loc} {K : α → Loc → Gh → List Addr → Hp → Prop} (h : Fin T E F ms H (.ok a l) K) (S : SRel F ms l H) : K a l F ms H := h F ms H Stp.refl S
theorem Fin.ret {o : Option α} {l : Loc} {K : α → Loc → Gh → List Addr → Hp → Prop} (h : Fin T E F ms H (Vx.ret o l) K) : ∃ a, o = some a ∧ Fin T E F ms H (.ok a l) K := by
  cases o with
  | none => exact h.elim
  | some a => exact ⟨a, rfl, h⟩
end

/-! readings of the evaluator -/
def kE (Q : VK) : W → Loc → Gh → List Addr → Hp → Prop := fun w _ F' ms' H' => ∀ v, Rp F' ms' v w → Q v H'
def tE (T : Tab) (Wx : WX) (f : Env → Loc → Res W) : TE := fun σ H Q =>
  ∃ (F : Gh) (ms : List Addr) (ρ : Env) (l : Loc), SRel F ms l H ∧ EnvR F ms ρ σ ∧ Fin T (fun c d H' => Wx c d σ H') F ms H (f ρ l) (kE Q)
def tT (T : Tab) (Wx : WX) (f : Env → Loc → Res Bool) : TT := fun σ H Q =>
  ∃ (F : Gh) (ms : List Addr) (ρ : Env) (l : Loc), SRel F ms l H ∧ EnvR F ms ρ σ ∧ Fin T (fun c d H' => Wx c d σ H') F ms H (f ρ l) (fun b _ _ _ H' => Q b H')
def tA (T : Tab) (Wx : WX) (f : Env → Loc → Res (List W)) : TA := fun σ H Q =>
  ∃ (F : Gh) (ms : List Addr) (ρ : Env) (l : Loc), SRel F ms l H ∧ EnvR F ms ρ σ ∧ Fin T (fun c d H' => Wx c d σ H') F ms H (f ρ l) (fun ws _ F' ms' H' => ∀ vs, RpL F' ms' vs ws → Q vs H')

end
/-! syntax that the checks look at -/
def nst : Expr → Bool
  | .Starred _ _ => false
  | _ => true
def nset : Expr → Bool
  | .Set _ _ _ => false
  | _ => true
def nsl : Expr → Bool
  | .Slice _ _ _ _ => false
  | _ => true
/-- no call of super() -/
def nsup : Expr → Bool
  | .Call (.Name _ _) [] [] _ => false
  | _ => true
/-- a test is its value's truth -/
def tplain : Expr → Bool
  | .UnaryOp .Not _ _ => false
  | .BoolOp _ _ _ => false
  | .IfExp _ _ _ _ => false
  | .Compare _ _ _ _ => false
  | _ => true
theorem star_cons {e : Expr} {es : List Expr} {env : PySem.Env} (h : nst e = true) : starEach (e :: es) env = (false, eval e env) :: starEach es env := by
  cases e <;> first | rfl | cases h
theorem star_any {pos : Pos} {env : PySem.Env} : ∀ {es : List Expr}, es.all nst = true → (backTo pos (starEach es env)).any (·.1) = false
  | [], _ => rfl
  | e :: es, h => by
    have h' : nst e = true ∧ es.all nst = true := by simpa using h
    rw [star_cons h'.1]
    have := star_any (pos := pos) (env := env) h'.2
    cases es with
    | nil => rfl
    | cons e2 es =>
      show (false || _) = false
      rw [Bool.false_or]
      exact this
theorem plain_ix {b : Expr} (h : nsl b = true) (o i : Value) : subscripted b false o i = operate [o, i] (getItem o i) := by
  cases b <;> first | rfl | cases h
theorem base_id {o : Expr} {f : Str} {env : PySem.Env} (h : nsup o = true) : attributeBase o f env (eval o env) = eval o env := by
  cases o <;> try rfl
  rename_i fn args kws pos
  cases fn <;> try rfl
  cases args <;> try rfl
  cases kws <;> first | rfl | cases h
theorem marks_id {e : Expr} (op : CmpOp) (h : nset e = true) : behindInMarks op e = false := by
  cases e <;> first | rfl | cases h
theorem fold_id {e : Expr} {env : PySem.Env} (h : nset e = true) (x : Value) : foldedSetIterable e env x = pure x := by
  cases e <;> first | rfl | cases h
theorem true_id {e : Expr} {env : PySem.Env} (h : tplain e = true) (whole : Sem Value) : isTrue e env whole = (do let v ← whole; standAt e.pos; holding [v] (truthy v)) := by
  cases e <;> first | rfl | (cases h; done) | skip
  rename_i op a pos
  cases op <;> first | rfl | cases h

/-! the checks: a printed form is the syntax's -/
def okC : D → Const → Bool
  | .non, .none => true
  | .bl a, .bool b => a == b
  | .int i, .int j => decide (i = j)
  | .str s, .str z => decide (z = sx s)
  | _, _ => false
/-- a name of the def -/
def okV (N : List Str) (sc : Scope) (i : Nat) (x : Str) : Bool :=
  decide (N[i]? = some x) && (decide (sc.names.lookup x = some .local) || decide (sc.names.lookup x = some .cell) || decide (sc.names.lookup x = some .free)) && !(x == ("__debug__" : Str)) && !(x == ("__classdict__" : Str))
def okG (sc : Scope) (x : Str) : Bool := decide (sc.names.lookup x = some .globalImplicit) && !(x == ("__debug__" : Str))
def okCon (o : Option D) (d : D) : Bool := match o, d with
  | some (.int i), .int j => decide (i = j)
  | some (.str s), .str t => decide (s = t)
  | _, _ => false
def okDl : List (Tx × Tx) → List (Option Expr) → List Expr → Bool
  | [], [], [] => true
  | (k, v) :: r, some (.Constant (.str x) _ _) :: ks, .Constant (.str y) _ _ :: vs => decide (x = sx k) && decide (y = sx v) && okDl r ks vs
  | _, _, _ => false
def sameC : D → D → Bool
  | .int i, .int j => decide (i = j)
  | .str i, .str j => decide (i = j)
  | _, _ => false
def sameT : List (Tx × D) → List (Tx × D) → Bool
  | [], [] => true
  | (z, d) :: r, (z2, d2) :: r2 => decide (z = z2) && sameC d d2 && sameT r r2
  | _, _ => false
theorem sameT_ok : ∀ {a b : List (Tx × D)}, sameT a b = true → a = b
  | [], [], _ => rfl
  | [], _ :: _, h => absurd h Bool.false_ne_true
  | _ :: _, [], h => absurd h Bool.false_ne_true
  | (z, d) :: r, (z2, d2) :: r2, h => by
    obtain ⟨h12, h3⟩ := Bool.and_eq_true_iff.mp (show (decide (z = z2) && sameC d d2 && sameT r r2) = true from h)
    obtain ⟨h1, h2⟩ := Bool.and_eq_true_iff.mp h12
    have e1 := of_decide_eq_true h1
    have e3 := sameT_ok h3
    subst e1
    subst e3
    cases d <;> cases d2 <;> first | (exact absurd h2 Bool.false_ne_true) | (rw [of_decide_eq_true (show decide (_ = _) = true from h2)])
def okTb (o : Option (List (Tx × D))) (kvs : List (Tx × D)) : Bool := match o with
  | some ks => sameT ks kvs
  | none => false
theorem okTb_ok {o : Option (List (Tx × D))} {kvs : List (Tx × D)} (h : okTb o kvs = true) : o = some kvs := by
  cases o with
  | none => exact absurd h Bool.false_ne_true
  | some ks => rw [sameT_ok (show sameT ks kvs = true from h)]
def biName : Bi → Str
  | .len => "len" | .abs => "abs" | .int => "int" | .isi _ => "isinstance" | .tup => "tuple" | .lst => "list"
def smName : Sm → Str
  | .split => "split" | .join => "join" | .lower => "lower" | .upper => "upper" | .index => "index" | .append => "append" | .find => "find" | .partition => "partition" | .starts => "startswith" | .ends => "endswith" | .get => "get" | .lindex => "index" | .lcount => "count" | .count => "count" | .rstrip => "rstrip" | .rpart => "rpartition" | .update => "update"
/-- a target; sc: the scope that owns the names -/
def okN (N : List Str) (sc : Scope) (i : Nat) (x : Str) : Bool := decide (N[i]? = some x) && (decide (sc.names.lookup x = some .local) || decide (sc.names.lookup x = some .cell))
def okNs (N : List Str) (sc : Scope) : List Nat → List Expr → Bool
  | [], [] => true
  | i :: is, .Name x _ :: es => okN N sc i x && okNs N sc is es
  | _, _ => false
def okTg (N : List Str) (sc : Scope) : Tg → Expr → Bool
  | .n i, .Name x _ => okN N sc i x
  | .t is, .Tuple es _ _ => okNs N sc is es
  | _, _ => false
def tgIs : Tg → List Nat
  | .n i => [i]
  | .t is => is
def noPs : Arguments → Bool
  | ⟨[], [], none, [], [], none, []⟩ => true
  | _ => false
def okAr : Sm → Nat → Bool
  | .lindex, n => n == 1
  | .lcount, n => n == 1
  | .append, n => n == 1
  | .get, n => n == 1 || n == 2
  | .update, _ => false
  | _, n => Nat.blt n 29
def notCls : Ty → Bool
  | .cls _ => false
  | _ => true
def notIsi : Bi → Bool
  | .isi _ => false
  | _ => true
/-- one comparison -/
def isC : Ex → Expr → Bool
  | .op _ _ _, .Compare _ [_] [_] _ => true
  | .chain _ _ _ _ _, .Compare _ [_, _] [_, _] _ => true
  | _, _ => false
mutual
def okE (T : Tab) (N : List Str) : Scope → Ex → Expr → Bool
  | _, .c x, .Constant k _ _ => okC x k
  | sc, .v i, .Name x _ => okV N sc i x
  | sc, .g y d, .Name x _ => decide (y = x) && okG sc x && okCon (T.con x) d
  | sc, .op o a b, .BinOp l p r _ => okBin o p && okE T N sc a l && okE T N sc b r
  | sc, .op o a b, .Compare l [p] [r] _ => okCmp o p && okE T N sc a l && okE T N sc b r && nset r
  | sc, .chain o1 o2 a b c, .Compare l [p, q] [r, t] _ => okCmp o1 p && okCmp o2 q && nset t && okE T N sc a l && okE T N sc b r && okE T N sc c t
  | sc, .and a b, .BoolOp .And (x :: y :: r) pos => okE T N sc a x && (match r with
    | [] => okE T N sc b y
    | z :: t => okE T N sc b (.BoolOp .And (y :: z :: t) pos))
  | sc, .or a b, .BoolOp .Or (x :: y :: r) pos => okE T N sc a x && (match r with
    | [] => okE T N sc b y
    | z :: t => okE T N sc b (.BoolOp .Or (y :: z :: t) pos))
  | sc, .not a, .UnaryOp .Not x _ => okE T N sc a x
  | sc, .neg a, .UnaryOp .USub x _ => okE T N sc a x
  | sc, .ite c a b, .IfExp x y z _ => okT T N sc c x && okE T N sc a y && okE T N sc b z
  | sc, .tup es, .Tuple xs _ _ => xs.all nst && okEs T N sc es xs
  | sc, .lst _ es, .List xs _ => xs.all nst && okEs T N sc es xs
  | sc, .idx a i, .Subscript x y _ => nsl y && okE T N sc a x && okE T N sc i y
  | sc, .sl a lo hi, .Subscript x (.Slice p q none _) _ => okE T N sc a x && okO T N sc lo p && okO T N sc hi q
  | _, .no, _ => true
  | sc, .call _ f es d, .Call (.Name x _) xs [] _ => !T.hot && okG sc x && decide (T.nm[f]? = some (some x)) && xs.all nst && okEs T N sc es xs && Nat.ble d (T.nd f)
  | sc, .bi (.isi t) a, .Call (.Name x _) [e, .Name y _] [] _ => okG sc x && decide (x = "isinstance") && okG sc y && decide (y = Str.ofString (tyName t)) && notCls t && nst e && okE T N sc a e
  | sc, .bi b a, .Call (.Name x _) [e] [] _ => okG sc x && decide (x = biName b) && notIsi b && nst e && okE T N sc a e
  | sc, .sm m o es, .Call (.Attribute x f p) xs [] q => decide (f = smName m) && nsup x && (p.endLine == q.line) && xs.all nst && okAr m xs.length && okE T N sc o x && okEs T N sc es xs
  | sc, .lc _ tg k ie cs e own, .ListComp elt [⟨tx, iter, ifs, 0⟩] scope _ => !T.hot && blkC N sc scope own && okTg N scope tg tx && (tgIs tg).all (fun i => (own.map (·.2)).contains i) && nset iter && okI T N sc k ie iter &&
      okTs T N (relS scope sc) cs ifs && okE T N (relS scope sc) e elt
  | _, .dnew, .Dict [] [] _ => true
  | _, .dnewF, .Dict [] [] _ => true
  | sc, .frz e, x => okE T N sc e x
  | sc, .isx c a, .Call (.Name x _) [e, .Name y _] [] _ => T.hot && okG sc x && decide (x = "isinstance") && okG sc y && decide (T.cn[c]? = some y) && nst e && okE T N sc a e
  | sc, .tget y kvs a, .Call (.Attribute (.Name x _) f p) [e] [] q => decide (y = x) && okG sc x && okTb (T.tb x) kvs && decide (f = "get") && (p.endLine == q.line) && nst e && okE T N sc a e
  | sc, .tget2 y kvs a b, .Call (.Attribute (.Name x _) f p) [e, e2] [] q => decide (y = x) && okG sc x && okTb (T.tb x) kvs && decide (f = "get") && (p.endLine == q.line) && nst e && nst e2 && okE T N sc a e && okE T N sc b e2
  | sc, .dlget kvs a b, .Call (.Attribute (.Dict ks vs _) f p) [e, e2] [] q => okDl kvs ks vs && decide (kvs ≠ []) && Nat.ble kvs.length 15 && decide (f = "get") && (p.endLine == q.line) && nst e && nst e2 && okE T N sc a e && okE T N sc b e2
  | sc, .dlget1 kvs a, .Call (.Attribute (.Dict ks vs _) f p) [e] [] q => okDl kvs ks vs && decide (kvs ≠ []) && Nat.ble kvs.length 15 && decide (f = "get") && (p.endLine == q.line) && nst e && okE T N sc a e
  | sc, .tix y kvs a, .Subscript (.Name x _) e _ => decide (y = x) && okG sc x && okTb (T.tb x) kvs && nsl e && okE T N sc a e
  | sc, .act i, .Call (.Name x _) [] [] _ => okV N sc i x
  | sc, .ask g body, .Call (.Name x _) [.Lambda ps lb scope _] [] _ => T.ask && okG sc x && decide (T.nm[g]? = some (some x)) && LamX.lamSB sc scope && noPs ps && okE T.plain N scope body lb
  | sc, .fld f o, .Attribute x y _ => decide (T.fn[f]? = some y) && nsup x && okE T N sc o x
  | sc, .meth _ m o es d, .Call (.Attribute x y p) xs [] q => !T.hot && decide (T.mn[m]? = some y) && nsup x && xs.all nst && Nat.blt xs.length 29 && (p.endLine == q.line) && Nat.ble d (T.md m) && okE T N sc o x && okEs T N sc es xs
  | sc, .make c es, .Call (.Name x _) xs [] _ => !T.hot && okG sc x && decide (T.kn[c]? = some x) && (T.pt.ini c).isSome && xs.all nst && okEs T N sc es xs
  | sc, .len a, .Call (.Name x _) [e] [] _ => okG sc x && decide (x = "len") && nst e && okE T N sc a e
  | sc, .max a b, .Call (.Name x _) [e, e2] [] _ => !T.hot && okG sc x && decide (x = "max") && nst e && nst e2 && okE T N sc a e && okE T N sc b e2
  | sc, .thw a, .Call (.Name x _) [e] [] _ => okG sc x && decide (x = "list") && nst e && okE T N sc a e
  | _, _, _ => false
def okT (T : Tab) (N : List Str) : Scope → Te → Expr → Bool
  | sc, .e a, x => (tplain x || isC a x) && okE T N sc a x
  | sc, .and a b, .BoolOp .And (x :: y :: r) pos => okT T N sc a x && (match r with
    | [] => okT T N sc b y
    | z :: t => okT T N sc b (.BoolOp .And (y :: z :: t) pos))
  | sc, .or a b, .BoolOp .Or (x :: y :: r) pos => okT T N sc a x && (match r with
    | [] => okT T N sc b y
    | z :: t => okT T N sc b (.BoolOp .Or (y :: z :: t) pos))
  | sc, .not a, .UnaryOp .Not x _ => okT T N sc a x
  | _, _, _ => false
def okEs (T : Tab) (N : List Str) : Scope → Exs → List Expr → Bool
  | _, .nil, [] => true
  | sc, .cons e es, x :: xs => okE T N sc e x && okEs T N sc es xs
  | _, _, _ => false
def okTs (T : Tab) (N : List Str) : Scope → Tes → List Expr → Bool
  | _, .nil, [] => true
  | sc, .cons e .nil, [x] => okT T N sc e x
  | _, _, _ => false
def okO (T : Tab) (N : List Str) : Scope → Eo → Option Expr → Bool
  | _, .no, none => true
  | sc, .so e, some x => okE T N sc e x
  | _, _, _ => false
/-- what is walked -/
def okI (T : Tab) (N : List Str) : Scope → Ik → Exs → Expr → Bool
  | sc, .rng1, .cons a .nil, e => match e with
    | .Call (.Name x _) [e] [] _ => okG sc x && decide (x = "range") && nst e && okE T N sc a e
    | _ => false
  | sc, .rng2, .cons a (.cons b .nil), e => match e with
    | .Call (.Name x _) [e, e2] [] _ => okG sc x && decide (x = "range") && nst e && nst e2 && okE T N sc a e && okE T N sc b e2
    | _ => false
  | sc, .lst, .cons a .nil, e => okE T N sc a e
  | sc, .tup, .cons a .nil, e => okE T N sc a e
  | sc, .str, .cons a .nil, e => okE T N sc a e
  | _, _, _, _ => false
end
/-- o.replace(..)..replace(..) -/
def okR (T : Tab) (N : List Str) (sc : Scope) : Ex → Expr → Bool
  | .repl y z o, .Call (.Attribute x f p) [.Constant (.str y') _ _, .Constant (.str z') _ _] [] q => decide (f = "replace") && nsup x && (p.endLine == q.line) && decide (y' = sx y) && decide (z' = sx z) && decide (y ≠ z) && (okE T N sc o x || okR T N sc o x)
  | _, _ => false
/-- a def of one value, with replace -/
def okTd (T : Tab) (N : List Str) (sc : Scope) : Sts → List Stmt → Bool
  | .cons (.ret e) .nil, [.Return (some v) _] => okR T N sc e v
  | _, _ => false
/-! the checks -/
def noLc : Expr → Bool
  | .ListComp _ _ _ _ => false
  | .SetComp _ _ _ _ => false
  | .DictComp _ _ _ _ _ => false
  | _ => true
def parOk : Expr → Expr → Bool
  | .Tuple _ _ _, .Tuple _ _ _ => false
  | .Tuple _ _ _, _ => true
  | .Name _ _, _ => true
  | _, _ => false
/-- the name behind as -/
def okAs (N : List Str) (sc : Scope) : Option Nat → Option Str → Bool
  | none, none => true
  | some i, some x => decide (N[i]? = some x) && decide (sc.names.lookup x = some .local)
  | _, _ => false
def okLcA (T : Tab) (N : List Str) (sc : Scope) : Tg → Ex → Expr → Expr → Bool
  | .n i, .lc m tg kk ie cs e own, .Name y py, .ListComp elt gs scope pos => decide (N[i]? = some y) && decide (sc.names.lookup y = some .local) && (py.line == pos.line) && !(scope.names.any fun (n, k) => n == y && (k == .local || k == .cell)) &&
      okE T N sc (.lc m tg kk ie cs e own) (.ListComp elt gs scope pos)
  | _, _, _, _ => false
/-- the store does not swap with the value -/
def noSw (sc : Scope) (t v : Expr) : Bool := noLc v || (match t with
  | .Name y _ => decide (sc.names.lookup y = some .cell)
  | _ => false)
def tgN : Tg → Bool
  | .n _ => true
  | .t _ => false
mutual
def okS (T : Tab) (N : List Str) (sc : Scope) : St → Stmt → Bool
  | .asg tg e, .Assign [t] v _ => ((!T.hot || tgN tg) && noSw sc t v && parOk t v && okTg N sc tg t && okE T N sc e v) || okLcA T N sc tg e t v
  | .par i j a b, .Assign [.Tuple [.Name x px, .Name y py] _ _] (.Tuple [v, u] _ _) _ => !T.hot && decide (N[i]? = some x) && decide (N[j]? = some y) && !(i == j) && decide (sc.names.lookup x = some .local) && decide (sc.names.lookup y = some .local) && (py.line == px.line) && decide (x ≠ y) &&
      nst v && nst u && !(foldedForSure 8 v && foldedForSure 8 u) && !(constantsAlone 8 v && constantsAlone 8 u) && okE T N sc a v && okE T N sc b u
  | .setI o i e, .Assign [.Subscript x y _] v _ => noLc v && nsl y && okE T N sc o x && okE T N sc i y && okE T N sc e v
  | .ex e, .Expr v _ => noLc v && okE T N sc e v
  | .ret e, .Return (some v) _ => okE T N sc e v
  | .ifs c a b, .If t x y _ => okT T N sc c t && okSs T N sc a x && okSs T N sc b y
  | .for tg k ie body, .For t iter b [] _ => !T.hot && nset iter && okTg N sc tg t && okI T N sc k ie iter && okSs T N sc body b
  | .whl _ c body, .While t b [] _ => okT T N sc c t && okSs T N sc body b
  | .raise c _, .Raise (some (.Call (.Name x _) [.Constant (.str _) _ _] [] _)) none _ => !T.hot && okG sc x && decide (T.cn[c]? = some x)
  | .try c e body suite, .Try b [.ExceptHandler (some (.Name x _)) nm (s0 :: sr) _] [] [] _ => !T.hot && okAs N sc e nm && okG sc x && decide (T.cn[c]? = some x) && okSs T N sc body b && okSs T.toHot N sc suite (s0 :: sr)
  | .pass, .Pass _ => true
  | .no, _ => true
  | .setF f o e, .Assign [.Attribute x y _] v _ => noLc v && decide (T.fn[f]? = some y) && nsup x && okE T N sc o x && okE T N sc e v
  | _, _ => false
def okSs (T : Tab) (N : List Str) (sc : Scope) : Sts → List Stmt → Bool
  | .no, _ => true
  | .nil, [] => true
  | .cons s r, st :: rest => okS T N sc s st && okSs T N sc r rest
  | _, _ => false
end
/-- a def that calls its parameter -/
def okAsk (T : Tab) (N : List Str) (sc : Scope) (A : Asker) : List Stmt → Bool
  | [.Assign [.Name y1 _] v1 _, .Try [.Assign [.Name y2 _] (.Tuple [.Constant k1 _ _, .Call (.Name a _) [] [] _] _ _) _] [.ExceptHandler (some (.Name cx _)) (some en) (s0 :: sr) _] [] [] _, .Return (some (.Name y3 _)) _] =>
    okN N sc A.x y1 && okN N sc A.x y2 && okV N sc A.x y3 && noLc v1 && okE T.toHot N sc A.init v1 && (conE A.init).isSome && okC A.told k1 && okV N sc 0 a && decide (N[A.e]? = some en) && decide (sc.names.lookup en = some .local) && okG sc cx && decide (T.cn[A.c]? = some cx) && okSs T.toHot N sc A.suite (s0 :: sr)
  | _ => false
/-! the program's facts, a context -/
/-- positional parameters alone -/
def plainB (s : Stmt) (ps : List Str) : Prop := ∀ (x qual : Str) (body : List Stmt) (scope : Scope) (kV doc pm : Value) (an : Option Addr) (cdv ct : Value) (us : List Value), us.length = ps.length → bindArgs (PySem.W.fnOf x qual (defArgs s) body scope .none kV doc pm an cdv ct) ⟨us, []⟩ = pure (ps.zip us)
section
variable [sp : Spv]
/-- a promise: what the evaluator says of the f-th def -/
def spF (T : Tab) (k f : Nat) : Sp := fun vs H Q E =>
  vs.length = (T.ps f).length ∧ ∃ (F : Gh) (ms : List Addr) (l : Loc) (ws : List W), SRel F ms l H ∧ RpL F ms vs ws ∧ Fin T E F ms H (Vx.call T.pt k f ws l) (kE Q)

/-- a dict of the module -/
def KTab (K : PySem.W.Frag) (w : World) (mg : Str → Option Value) (x : Str) (kvs : List (Tx × D)) : Prop :=
  ∃ (d : Addr) (es : Array DictEntry) (n : Nat), mg x = some (.ref d) ∧ KDict K w d es n ∧ ∀ z : Tx, match tabV kvs z with
    | some dv => ∃ (u : Value) (v : V), PySem.W.nsIn K d (sx z) = some (some u) ∧ RelV v u ∧ ∀ (sp : Spv) (F : Gh), @Rep sp F v dv
    | none => PySem.W.nsIn K d (sx z) = some none
/-- the facts of the program -/
structure Facts (T : Tab) (P : Program) (w : World) (K : PySem.W.Frag) (mg : Str → Option Value) (base : Heap) (k : Nat) : Prop where
  fn : T.hot = false → ∀ (f : Nat) (x : Option Str), T.nm[f]? = some x → FnOk P w K mg base (L2.CX P w) (4 * k + 1) (T.fa f) (T.fd f) (T.ps f) (spF T k f)
  gl : ∀ (f : Nat) (x : Str), T.nm[f]? = some (some x) → mg x = some (.ref (T.fa f))
  kp : ∀ (f : Nat) (x : Option Str), T.nm[f]? = some x → PySem.W.keepIn K (.ref (T.fa f)) = true ∧ ∀ d, d ≤ T.nd f → ∃ ds, Vals (List.replicate d V.non) ds ∧ Binds K (T.fd f) (T.ps f) ds
  fld : ∀ (c f i : Nat), T.pt.fl c f = some i → ∃ x, T.fn[f]? = some x ∧ (Tbs.fn c)[i]? = some x ∧ (Tbs.fn c).Nodup ∧ NoAttr K (Tbs.cl c) x ∧ Cls K (Tbs.cl c) ∧ (Tbs.fn c).length < 1000
  mth : ∀ (c m g : Nat), T.pt.mt c m = some g → T.md m ≤ T.nd g ∧ ∃ x, T.mn[m]? = some x ∧ x ∉ Tbs.fn c ∧ Cls K (Tbs.cl c) ∧ Meth K (Tbs.cl c) x (T.fa g) ∧ ∃ o, T.nm[g]? = some o
  mkr : ∀ (c g : Nat) (x : Str), T.pt.ini c = some g → T.kn[c]? = some x → mg x = some (.ref (Tbs.cl c)) ∧ Mk K (Tbs.cl c) (T.fa g) ∧ ∃ o, T.nm[g]? = some o
  con : ∀ (x : Str) (d : D), T.con x = some d → ∃ u v, mg x = some u ∧ RelV v u ∧ ∀ (sp : Spv) (F : Gh), @Rep sp F v d
  fr : ∀ x ∈ (["len", "abs", "int", "isinstance", "range", "str", "bool", "list", "tuple", "ValueError", "dict", "sorted", "set", "enumerate", "zip", "min", "max"] : List Str), mg x = none
  exc : ∀ (c : Nat) (x : Str), T.cn[c]? = some x → mg x = some (.ref (T.ca c)) ∧ PySem.W.excIn K (T.ca c) He.veBase "ValueError.__new__" = true ∧ PySem.W.keepIn K (.ref (T.ca c)) = true ∧
    PySem.W.subIn K (.ref (T.ca c)) (.type "BaseException") = some true ∧ PySem.W.typeIn K (.ref (T.ca c)) = some (.type "type")
  xc : ∀ (c : Nat) (x : Str), T.cn[c]? = some x → ExcC K (T.ca c)
  kit : ∀ (c c' : Nat) (b : Bool), T.sub c c' = some b → PySem.W.kitOne K (.ref (T.ca c)) (.ref (T.ca c')) = some b
  sbn : ∀ (c c' : Nat) (b : Bool), T.sub c c' = some b → ∃ x, T.cn[c]? = some x
  df : ∀ (f : Nat) (x : Str) (d : Def) (A : Asker), T.nm[f]? = some (some x) → T.dfs[f]? = some d → askOf d = some A → ∃ (s : Stmt) (N : List Str), FunD K x x (defArgs s) (defBody s) (defScope s) [] [] (T.fa f) (T.fd f) ∧ plainB s (T.ps f) ∧ FnScope N (T.ps f) (defScope s) ∧ T.ps f = N.take d.np ∧ d.nl = N.length ∧ okAsk T N (defScope s) A (defBody s) = true
  np : ∀ (f : Nat) (df : Def), T.dfs[f]? = some df → df.np = (T.ps f).length
  exm : ∀ (c c' : Nat) (b : Bool), T.sub c c' = some b → PySem.W.exmOne K (.ref (T.ca c)) (.ref (T.ca c')) = some b
  tabs : ∀ (x : Str) (kvs : List (Tx × D)), T.tb x = some kvs → KTab K w mg x kvs

/-- a context in which lambdas may be handed -/
structure LamC (k : Nat) (X : Cx) : Prop where
  has : ∃ c P : Addr, LamX.TabB X.base X.mg c P ∧ X.env.code = .ref c ∧ (P, X.env.qual ++ "<lambda>") ∈ Tbs.T ∧ ∀ p ∈ Tbs.T, p.1 = P → p.2 = X.env.qual ++ "<lambda>"
  room : Room (4 * k + 4) X.A
structure Cxt (T : Tab) (k : Nat) (X : Cx) (sc : Scope) (Wx : WX) : Prop where
  facts : Facts T X.prog X.w X.K X.mg X.base k
  sc : X.env.scope = sc
  nd : X.N.Nodup
  calm : T.hot = false → X.calm = true
  room : T.hot = false → Room (4 * k + 2) X.A
  un : X.A.units + 100 < cLine
  tk : T.hot = false → Takes X Wx
  cold : T.hot = false → ∀ a c ds, ¬ sp.P a c ds
  exc : T.hot = true → ∀ a c ds, sp.P a c ds → ∃ (oe : PySem.Obj) (x : Str), (a, oe) ∈ X.pn ∧ Zc (.ref (T.ca c)) none oe ∧ (∃ vs, oe.data = .fields vs) ∧ T.cn[c]? = some x
  lam : T.ask = true → LamC k X
  pw : PwOk X
end
theorem Cxt.u64 [sp : Spv] {T : Tab} {k : Nat} {X : Cx} {sc : Scope} {Wx : WX} (C : Cxt T k X sc Wx) : X.A.units + 64 < cLine := by
  have := C.un
  omega
theorem Facts.hotter {sp sp2 : Spv} {T : Tab} {P : Program} {w : World} {K : PySem.W.Frag} {mg : Str → Option Value} {base : Heap} {k : Nat} (f : @Facts _ sp T P w K mg base k) : @Facts _ sp2 T.toHot P w K mg base k := by
  obtain ⟨f1, f2, f3, f4, f5, f6, f7, f8, f9, f10, f11, f12, f13, f14, f15, f16⟩ := f
  exact @Facts.mk _ sp2 _ _ _ _ _ _ _ (fun h => Bool.noConfusion (show true = false from h)) f2 f3 f4 f5 f6 f7 f8 f9 f10 f11 f12 f13 f14 f15 f16
theorem Facts.plain {sp : Spv} {T : Tab} {P : Program} {w : World} {K : PySem.W.Frag} {mg : Str → Option Value} {base : Heap} {k : Nat} (h : T.hot = false) (f : @Facts _ sp T P w K mg base k) : @Facts _ sp T.plain P w K mg base k := by
  obtain ⟨f1, f2, f3, f4, f5, f6, f7, f8, f9, f10, f11, f12, f13, f14, f15, f16⟩ := f
  exact @Facts.mk _ sp _ _ _ _ _ _ _ (fun _ => f1 h) f2 f3 f4 f5 f6 f7 f8 f9 f10 f11 f12 f13 f14 f15 f16
end Vx

set_option maxHeartbeats 4000000
namespace Vx
open PySem PySem.Spec PyProof.Rows L2
variable [tb : Tbs] [sp : Spv]

theorem pe_mono {X : Cx} {e : Expr} {t t' : TE} (h : PE X e t) (m : ∀ σ H Q, t' σ H Q → t σ H Q) : PE X e t' := ⟨fun pins s σ H Q I q => h.run pins s σ H Q I (m σ H Q q)⟩
theorem pt_mono {X : Cx} {e : Expr} {t t' : TT} (h : PT X e t) (m : ∀ σ H Q, t' σ H Q → t σ H Q) : PT X e t' := ⟨fun pins s σ H Q I q => h.run pins s σ H Q I (m σ H Q q)⟩
theorem pi_mono {X : Cx} {g e : Expr} {t t' : TI} (h : PI X g e t) (m : ∀ σ H Q, t' σ H Q → t σ H Q) : PI X g e t' := ⟨fun pins s σ H Q I q => h.run pins s σ H Q I (m σ H Q q)⟩

section
variable {T : Tab} {k : Nat} {X : Cx} {sc : Scope} {Wx : WX} 
variable {pins : List (Addr × PySem.Obj)} {s : Shared} {σ : L2.St} {H : Hp} {F : Gh} {ms : List Addr} {ρ : Env} {l : Loc}
/-- a part runs -/
theorem runE {β : Type} {e : Expr} {f : Env → Loc → Res W} {g : W → Loc → Res β} {K : β → Loc → Gh → List Addr → Hp → Prop} {Q' : Value → Shared → Prop}
    (ha : PE X e (tE T Wx f)) (I : Inv X pins σ H s) (S : SRel F ms l H) (E : EnvR F ms ρ σ) (h : Fin T (fun c d H' => Wx c d σ H') F ms H ((f ρ l).bind g) K)
    (q : ∀ u s1 v H1 F1 ms1 w l1, Inv X pins σ H1 s1 → RelV v u → Stp F ms H F1 ms1 H1 → SRel F1 ms1 l1 H1 → EnvR F1 ms1 ρ σ → Rp F1 ms1 v w → Fin T (fun c d H' => Wx c d σ H') F1 ms1 H1 (g w l1) K → Q' u s1) :
    wpAny (model X.prog X.w) X.A (eval e X.env) Q' X.xe s := by
  refine thn (ha.run pins s σ H (fun v H1 => ∃ F1 ms1 w l1, Stp F ms H F1 ms1 H1 ∧ SRel F1 ms1 l1 H1 ∧ Rp F1 ms1 v w ∧ Fin T (fun c d H' => Wx c d σ H') F1 ms1 H1 (g w l1) K) I ⟨F, ms, ρ, l, S, E, ?_⟩) fun u s1 ⟨v, H1, I1, r1, F1, ms1, w, l1, t1, S1, p1, h1⟩ => ?_
  · exact (Fin.bind h).mono fun w l1 F1 ms1 H1 t1 S1 z v p => ⟨F1, ms1, w, l1, t1, S1, p, z⟩
  · exact q u s1 v H1 F1 ms1 w l1 I1 r1 t1 S1 (E.stp t1) p1 h1
theorem runT {β : Type} {e : Expr} {f : Env → Loc → Res Bool} {g : Bool → Loc → Res β} {K : β → Loc → Gh → List Addr → Hp → Prop} {Q' : Bool → Shared → Prop}
    (ha : PT X e (tT T Wx f)) (I : Inv X pins σ H s) (S : SRel F ms l H) (E : EnvR F ms ρ σ) (h : Fin T (fun c d H' => Wx c d σ H') F ms H ((f ρ l).bind g) K)
    (q : ∀ b s1 H1 F1 ms1 l1, Inv X pins σ H1 s1 → Stp F ms H F1 ms1 H1 → SRel F1 ms1 l1 H1 → EnvR F1 ms1 ρ σ → Fin T (fun c d H' => Wx c d σ H') F1 ms1 H1 (g b l1) K → Q' b s1) :
    wpAny (model X.prog X.w) X.A (isTrue e X.env (eval e X.env)) Q' X.xe s := by
  refine thn (ha.run pins s σ H (fun b H1 => ∃ F1 ms1 l1, Stp F ms H F1 ms1 H1 ∧ SRel F1 ms1 l1 H1 ∧ Fin T (fun c d H' => Wx c d σ H') F1 ms1 H1 (g b l1) K) I ⟨F, ms, ρ, l, S, E, ?_⟩) fun u s1 ⟨H1, I1, F1, ms1, l1, t1, S1, h1⟩ => ?_
  · exact (Fin.bind h).mono fun w l1 F1 ms1 H1 t1 S1 z => ⟨F1, ms1, l1, t1, S1, z⟩
  · exact q u s1 H1 F1 ms1 l1 I1 t1 S1 (E.stp t1) h1
theorem runA {β : Type} {es : List Expr} {pos : Pos} {f : Env → Loc → Res (List W)} {g : List W → Loc → Res β} {K : β → Loc → Gh → List Addr → Hp → Prop} {Q' : List Value → Shared → Prop}
    (ha : PA X es (tA T Wx f)) (I : Inv X pins σ H s) (S : SRel F ms l H) (E : EnvR F ms ρ σ) (h : Fin T (fun c d H' => Wx c d σ H') F ms H ((f ρ l).bind g) K)
    (q : ∀ us s1 vs H1 F1 ms1 ws l1, Inv X pins σ H1 s1 → Vals vs us → Stp F ms H F1 ms1 H1 → SRel F1 ms1 l1 H1 → EnvR F1 ms1 ρ σ → RpL F1 ms1 vs ws → Fin T (fun c d H' => Wx c d σ H') F1 ms1 H1 (g ws l1) K → Q' us s1) :
    wpAny (model X.prog X.w) X.A (spliced (backTo pos (starEach es X.env))) Q' X.xe s := by
  refine thn (ha.run pos pins s σ H (fun vs H1 => ∃ F1 ms1 ws l1, Stp F ms H F1 ms1 H1 ∧ SRel F1 ms1 l1 H1 ∧ RpL F1 ms1 vs ws ∧ Fin T (fun c d H' => Wx c d σ H') F1 ms1 H1 (g ws l1) K) I ⟨F, ms, ρ, l, S, E, ?_⟩) fun us s1 ⟨vs, H1, I1, r1, F1, ms1, ws, l1, t1, S1, p1, h1⟩ => ?_
  · exact (Fin.bind h).mono fun w l1 F1 ms1 H1 t1 S1 z v p => ⟨F1, ms1, w, l1, t1, S1, p, z⟩
  · exact q us s1 vs H1 F1 ms1 ws l1 I1 r1 t1 S1 (E.stp t1) p1 h1
/-- the end of an expression -/
theorem endE {Q : VK} {v : V} {u : Value} {w : W} (I : Inv X pins σ H s) (r : RelV v u) (S : SRel F ms l H) (p : Rp F ms v w) (h : Fin T (fun c d H' => Wx c d σ H') F ms H (.ok w l) (kE Q)) : EP X pins σ Q u s :=
  ⟨v, H, I, r, Fin.here h S v p⟩
/-- an operation gives a value of the store -/
theorem Fin.kw {Q : VK} {w : W} {E : XK} (h : Fin T E F ms H (.ok w l) (kE Q)) : Kw F ms l H Q w := fun F' H' z t S p => h F' ms H' t S z p
theorem Fin.kd {Q : VK} {d : D} {E : XK} (h : Fin T E F ms H (.ok (.d d) l) (kE Q)) : Kd F ms l H Q d := fun F' H' z t S p => h F' ms H' t S z p

theorem vis_of {N : List Str} {i : Nat} {x : Str} (hs : X.env.scope = sc) (h : okV N sc i x = true) : N[i]? = some x ∧ Vis X.env.scope x ∧ (x == ("__debug__" : Str)) = false ∧ (x == ("__classdict__" : Str)) = false := by
  unfold okV at h
  simp only [Bool.and_eq_true, Bool.or_eq_true, decide_eq_true_eq, Bool.not_eq_true'] at h
  obtain ⟨⟨⟨h1, h2⟩, h3⟩, h4⟩ := h
  refine ⟨h1, ?_, h3, h4⟩
  rw [hs]
  rcases h2 with (h2 | h2) | h2
  · exact .inl h2
  · exact .inr (.inl h2)
  · exact .inr (.inr h2)
theorem gl_of {x : Str} (hs : X.env.scope = sc) (h : okG sc x = true) : Gl X x ∧ (x == ("__debug__" : Str)) = false := by
  unfold okG at h
  simp only [Bool.and_eq_true, decide_eq_true_eq, Bool.not_eq_true'] at h
  refine ⟨?_, h.2⟩
  show X.env.scope.names.lookup x = some .globalImplicit
  rw [hs]; exact h.1

/-! calls -/
theorem call_len {E : XK} {f : Nat} {ws : List W} {l1 : Loc} {K : W → Loc → Gh → List Addr → Hp → Prop} (np : ∀ (f : Nat) (df : Def), T.dfs[f]? = some df → df.np = (T.ps f).length) (h : Fin T E F ms H (Vx.call T.pt k f ws l1) K) : ws.length = (T.ps f).length := by
  cases k with
  | zero => exact h.elim
  | succ k =>
    unfold Vx.call at h
    cases q : T.pt.dfs[f]? with
    | none => rw [q] at h; exact h.elim
    | some df =>
      rw [q] at h
      by_cases e : ws.length = df.np
      · rw [e]; exact np f df q
      · simp only [e, if_false] at h
        exact h.elim
theorem spF_fn {f : Nat} {vs : List V} {ws : List W} {ro : Bool} {Q : VK} {E : XK} (np : ∀ (f : Nat) (df : Def), T.dfs[f]? = some df → df.np = (T.ps f).length) (S : SRel F ms l H) (p : RpL F ms vs ws)
    (h : Fin T E F ms H (fnCall (Vx.call T.pt k) ro f ws l) (kE Q)) : spF T k f vs H Q E := by
  cases ro with
  | false => exact ⟨p.len.trans (call_len np (show Fin T E F ms H (Vx.call T.pt k f ws l) (kE Q) from h)), F, ms, l, ws, S, p, h⟩
  | true =>
    have key : Fin T E F ms H (Vx.call T.pt k f ws l) (kE Q) := by
      have h' : Fin T E F ms H (roRes (Vx.call T.pt k f ws l) l) (kE Q) := h
      unfold roRes at h'
      cases q : Vx.call T.pt k f ws l with
      | bad => rw [q] at h'; exact h'.elim
      | exc c p l' =>
        rw [q] at h'
        dsimp only at h'
        split at h'
        · rename_i hp
          exact fun e F' ms' H' t S' => h' e F' ms H' t.cut (S.cut t.pre S' hp)
        · exact h'.elim
      | ok w l' =>
        rw [q] at h'
        cases w with
        | r n => exact h'.elim
        | d x =>
          dsimp only at h'
          split at h'
          · rename_i hp
            exact fun F' ms' H' t S' v r => h' F' ms H' t.cut (S.cut t.pre S' hp) v r
          · exact h'.elim
    exact ⟨p.len.trans (call_len np key), F, ms, l, ws, S, p, key⟩
theorem RpL.pad {vs : List V} {ws : List W} {d : Nat} (p : RpL F ms vs ws) : RpL F ms (vs ++ List.replicate d V.non) (padN ws d) := by
  rw [padN_eq]
  refine p.append ?_
  induction d with
  | zero => exact trivial
  | succ d ih => exact ⟨rfl, ih⟩
/-- the call itself -/
theorem run_call {f : Nat} {o : Option Str} {d : Nat} {ro : Bool} (C : Cxt T k X sc Wx) (hh : T.hot = false) (hf : T.nm[f]? = some o) (hd : d ≤ T.nd f) {us : List Value} {vs : List V} {ws : List W} {Q : VK} (I : Inv X pins σ H s) (r : Vals vs us) (S : SRel F ms l H) (p : RpL F ms vs ws)
    (h : Fin T (fun c d H' => Wx c d σ H') F ms H (fnCall (Vx.call T.pt k) ro f (padN ws d) l) (kE Q)) : wpAny (model X.prog X.w) X.A (PySem.call (.ref (T.fa f)) us) (EP X pins σ Q) X.xe s := by
  obtain ⟨m2, m3⟩ := C.facts.kp f o hf
  obtain ⟨ds, hds, hb⟩ := m3 d hd
  exact run_fnSD (E := fun σ => WE Wx σ) (C.facts.fn hh f o hf) ((C.room hh).mono (by omega)) hb hds (passAt (C.tk hh) σ) I r (spF_fn C.facts.np S p.pad h)
theorem call_pe {f d : Nat} {x : Str} {xs : List Expr} {p pos : Pos} {ro : Bool} {fe : Env → Loc → Res (List W)} (C : Cxt T k X sc Wx) (hh : T.hot = false) (hg : okG sc x = true) (hf : T.nm[f]? = some (some x)) (hx : xs.all nst = true) (hd : d ≤ T.nd f)
    (ha : PA X xs (tA T Wx fe)) (hnil : xs = [] → ∀ ρ l, fe ρ l = .ok [] l) : PE X (.Call (.Name x p) xs [] pos) (tE T Wx fun ρ l => (fe ρ l).bind fun ws l => fnCall (Vx.call T.pt k) ro f (padN ws d) l) := by
  obtain ⟨g1, g2⟩ := gl_of C.sc hg
  have m1 := C.facts.gl f x hf
  have m2 := (C.facts.kp f _ hf).1
  refine ⟨fun pins s σ H Q I ⟨F, ms, ρ, l, S, E, h⟩ => ?_⟩
  refine wpAny_Call_Name_kw (ld_glob I g1 m1 ?_ g2)
  cases xs with
  | nil =>
    refine PySem.W.callWith_K0 I.kIn m2 ?_
    dsimp only at h
    rw [hnil rfl ρ l] at h
    exact run_call C hh hf hd (us := []) (vs := []) (ws := []) I .nil S trivial h
  | cons e es =>
    have h' : nst e = true ∧ es.all nst = true := by simpa using hx
    refine PySem.W.callWith_K (h₀ := X.base) I.ok.mod.kin m2 (runA ha I S E h fun us s1 vs H1 F1 ms1 ws l1 I1 r1 t1 S1 E1 p1 h1 => ⟨I1.kIn, ?_⟩) (star_cons h'.1) (star_any h'.2)
    exact run_call C hh hf hd I1 r1 S1 p1 h1
/-! fields, methods, instances -/
theorem lookup_zip {β : Type} : ∀ {xs : List Str} {vs : List β} {i : Nat} {x : Str} {v : β}, xs.Nodup → xs[i]? = some x → vs[i]? = some v → (xs.zip vs).lookup x = some v
  | [], _, _, _, _, _, e, _ => by simp at e
  | _ :: _, [], _, _, _, _, _, e => by simp at e
  | y :: xs, u :: vs, 0, x, v, _, e1, e2 => by
    simp at e1 e2
    subst e1 e2
    simp [List.lookup_cons]
  | y :: xs, u :: vs, i + 1, x, v, nd, e1, e2 => by
    rw [List.nodup_cons] at nd
    have e1' : xs[i]? = some x := by simpa using e1
    have hne : ¬ x = y := fun z => nd.1 (by rw [← z]; exact List.mem_of_getElem? e1')
    have := lookup_zip (vs := vs) nd.2 e1' (by simpa using e2)
    rw [List.zip_cons_cons, List.lookup_cons]
    have hb : (x == y) = false := by simpa using hne
    rw [hb]
    exact this
theorem lookup_no {β : Type} : ∀ {xs : List Str} {vs : List β} {x : Str}, x ∉ xs.take vs.length → (xs.zip vs).lookup x = none
  | [], _, _, _ => rfl
  | _ :: _, [], _, _ => rfl
  | y :: xs, u :: vs, x, h => by
    have h' : ¬ x = y ∧ x ∉ xs.take vs.length := by
      simpa [not_or] using h
    rw [List.zip_cons_cons, List.lookup_cons]
    have hb : (x == y) = false := by simpa using h'.1
    rw [hb]
    exact lookup_no h'.2
/-- an instance of the store -/
theorem ins_at (S : SRel F ms l H) {n c : Nat} {a : Addr} {ws : List W} (e : ms[n]? = some a) (q : l[n]? = some (.ins c ws)) : F a = none ∧ ∃ dx vs, H a = some (.ins (Tbs.cl c) dx ((Tbs.fn c).zip vs)) ∧ ws.length ≤ (Tbs.fn c).length ∧ RpL F ms vs ws := S.at_ n a _ e q
theorem fld_pe {f : Nat} {o : Expr} {y : Str} {pos : Pos} {fa : Env → Loc → Res W} (C : Cxt T k X sc Wx) (hf : T.fn[f]? = some y) (hs : nsup o = true) (ho : PE X o (tE T Wx fa)) :
    PE X (.Attribute o y pos) (tE T Wx fun ρ l => (fa ρ l).bind fun x l => ret (fldW T.pt.fl f l x) l) := by
  refine pe_mono (pe_fld ho (base_id hs)) fun σ H Q ⟨F, ms, ρ, l, S, E, h⟩ => ⟨F, ms, ρ, l, S, E, (Fin.bind h).mono fun w l1 F1 ms1 H1 t1 S1 z v p => ?_⟩
  obtain ⟨wr, e, h1⟩ := Fin.ret z
  unfold fldW at e
  cases w with
  | d x => cases e
  | r n =>
    obtain ⟨a, ea, rfl⟩ := p
    dsimp only at e
    cases q : l1[n]? with
    | none => rw [q] at e; cases e
    | some ob =>
      rw [q] at e
      cases ob with
      | ins c ws =>
        dsimp only at e
        cases q2 : T.pt.fl c f with
        | none => rw [q2] at e; cases e
        | some i =>
          rw [q2] at e
          have e' : ws[i]? = some wr := e
          obtain ⟨x, e1, e2, nd, na, cl, _⟩ := C.facts.fld c f i q2
          rw [hf] at e1
          cases e1
          obtain ⟨_, dx, vs, hH, _, hl⟩ := ins_at S1 ea q
          obtain ⟨v, hv, hr⟩ := hl.get e'
          exact ⟨a, _, dx, _, v, rfl, hH, cl, na, lookup_zip nd e2 hv, Fin.here h1 S1 v hr⟩
      | lst _ => cases e
      | tup _ => cases e
      | dct _ _ => cases e
      | dead => cases e
theorem few_okM {xs : List Expr} {cpos : Pos} {env : PySem.Env} (hx : xs.all nst = true) (hl : Nat.blt xs.length 29 = true) : methodCallForm (xs.length + ([] : List Keyword).length) (backTo cpos (starEach xs env)) (backToKw cpos (keywordEach [] env)) = true := by
  have h1 : (backTo cpos (starEach xs env)).all (fun x => !x.1) = true := by
    have h := star_any (pos := cpos) (env := env) hx
    rw [List.any_eq_false] at h
    rw [List.all_eq_true]
    intro x hm
    have := h x hm
    simpa using this
  have h2 : xs.length < 29 := by simpa [Nat.blt_eq] using hl
  unfold methodCallForm
  rw [h1]
  simp [backToKw, keywordEach]
  omega
theorem methOf {prog : Program} {w : World} {A : Around} {E : Value → Shared → Prop} {s : Shared} {env : PySem.Env} {o : Expr} {name : Str} {apos pos : Pos} {args : List Expr} {Q : Value → Shared → Prop} (hbase : attributeBase o name env (eval o env) = eval o env)
    (hform : methodCallForm (args.length + ([] : List Keyword).length) (backTo pos (starEach args env)) (backToKw pos (keywordEach [] env)) = true) (hline : (apos.endLine == pos.line) = true)
    (h : wpAny (model prog w) A (eval o env) (fun ov s₁ => wpAny (model prog w) A (getMethod ov name (do return (← importBound o env).getD true)) (fun fx s₂ => wpAny (model prog w) A (callWith pos fx.1 fx.2 (backTo pos (starEach args env)) (backToKw pos (keywordEach [] env))) Q E s₂) E s₁) E s) :
    wpAny (model prog w) A (eval (.Call (.Attribute o name apos) args [] pos) env) Q E s := by
  have hpos : methodCallPos true o env apos pos = pure pos := by unfold methodCallPos; simp [hline]
  rw [arm_eval_Call, hbase]
  refine wpAny_bind (wpAny_mono h (fun ov s₁ h₁ => ?_) fun _ _ e => e)
  refine wpAny_bind (wpAny_standAt ?_)
  unfold methodCall
  rw [hform]
  refine wpAny_bind (wpAny_holding (wpAny_mono h₁ (fun fx s₂ h₂ => ?_) fun _ _ e => e))
  exact wpAny_bind (wpAny_of_eq hpos h₂)
theorem meth_pe {m d : Nat} {o : Expr} {y : Str} {xs : List Expr} {apos pos : Pos} {ro : Bool} {fa : Env → Loc → Res W} {fe : Env → Loc → Res (List W)} (C : Cxt T k X sc Wx) (hh : T.hot = false) (hm : T.mn[m]? = some y) (hs : nsup o = true) (hx : xs.all nst = true) (hl : Nat.blt xs.length 29 = true) (hline : (apos.endLine == pos.line) = true) (hd : d ≤ T.md m)
    (ho : PE X o (tE T Wx fa)) (ha : PA X xs (tA T Wx fe)) (hnil : xs = [] → ∀ ρ l, fe ρ l = .ok [] l) :
    PE X (.Call (.Attribute o y apos) xs [] pos) (tE T Wx fun ρ l => (fa ρ l).bind fun x l => match methW T.pt.mt m l x with
      | some g => (fe ρ l).bind fun ws l => fnCall (Vx.call T.pt k) ro g (padN (x :: ws) d) l
      | none => .bad) := by
  refine ⟨fun pins s σ H Q I ⟨F, ms, ρ, l, S, E, h⟩ => ?_⟩
  refine methOf (base_id hs) (few_okM hx hl) hline (runE ho I S E h fun u s1 v H1 F1 ms1 w l1 I1 r1 t1 S1 E1 p1 h1 => ?_)
  unfold methW at h1
  cases w with
  | d x => exact h1.elim
  | r n =>
    obtain ⟨a, ea, rfl⟩ := p1
    cases r1
    dsimp only at h1
    cases q : l1[n]? with
    | none => rw [q] at h1; exact h1.elim
    | some ob =>
      rw [q] at h1
      cases ob with
      | lst _ => exact h1.elim
      | tup _ => exact h1.elim
      | dct _ _ => exact h1.elim
      | dead => exact h1.elim
      | ins c ws0 =>
        dsimp only at h1
        cases q2 : T.pt.mt c m with
        | none => rw [q2] at h1; exact h1.elim
        | some g =>
          rw [q2] at h1
          obtain ⟨hmd, x, e1, hno, cl, me, og, hg⟩ := C.facts.mth c m g q2
          rw [hm] at e1
          cases e1
          obtain ⟨_, dx, vs0, hH, hlen, hl0⟩ := ins_at S1 ea q
          refine getmeth_ok I1 hH cl me (lookup_no fun z => hno (List.mem_of_mem_take z)) ?_
          cases xs with
          | nil =>
            refine PySem.W.callWith_K0 (first := [.ref a]) I1.kIn me.kp ?_
            have h2 : Fin T (fun c d H' => Wx c d σ H') F1 ms1 H1 ((fe ρ l1).bind fun ws l => fnCall (Vx.call T.pt k) ro g (padN (.r n :: ws) d) l) (kE Q) := h1
            rw [hnil rfl ρ l1] at h2
            exact run_call C hh hg (Nat.le_trans hd hmd) (us := [.ref a]) (vs := [.ref a]) (ws := [.r n]) I1 (.cons rfl .nil) S1 ⟨⟨a, ea, rfl⟩, trivial⟩ h2
          | cons e es =>
            have h' : nst e = true ∧ es.all nst = true := by simpa using hx
            refine PySem.W.callWith_K (first := [.ref a]) (h₀ := X.base) I.ok.mod.kin me.kp (runA ha I1 S1 E1 h1 fun us s2 vs H2 F2 ms2 ws l2 I2 r2 t2 S2 E2 p2 h2 => ⟨I2.kIn, ?_⟩) (star_cons h'.1) (star_any h'.2)
            exact run_call C hh hg (Nat.le_trans hd hmd) (us := .ref a :: us) (vs := .ref a :: vs) (ws := .r n :: ws) I2 (.cons rfl r2) S2 ⟨⟨a, pre_get t2.pre ea, rfl⟩, p2⟩ h2

/-! small rules -/
theorem bin_pe {o : Op2} {op : Operator} {a b : Expr} {fa fb : Env → Loc → Res W} {pos : Pos} (ho : okBin o op = true) (ha : PE X a (tE T Wx fa)) (hb : PE X b (tE T Wx fb)) :
    PE X (.BinOp a op b pos) (tE T Wx fun ρ l => (fa ρ l).bind fun x l => (fb ρ l).bind fun y l => ret (op2W l o x y) l) := by
  refine ⟨fun pins s σ H Q I ⟨F, ms, ρ, l, S, E, h⟩ => ?_⟩
  refine wpAny_BinOp (runE ha I S E h fun u s1 v H1 F1 ms1 w l1 I1 r1 t1 S1 E1 p1 h1 => runE hb I1 S1 E1 h1 fun u2 s2 v2 H2 F2 ms2 w2 l2 I2 r2 t2 S2 E2 p2 h2 => ?_)
  obtain ⟨d, e, h3⟩ := Fin.ret h2
  exact ow_bin ho pins s2 σ H2 F2 ms2 (l2) v v2 u u2 w w2 d Q I2 r1 r2 S2 (p1.stp t2) p2 e h3.kw
theorem cmp_pe {o : Op2} {op : CmpOp} {a b : Expr} {fa fb : Env → Loc → Res W} {pos : Pos} (C : Cxt T k X sc Wx) (ho : okCmp o op = true) (hn : nset b = true) (ha : PE X a (tE T Wx fa)) (hb : PE X b (tE T Wx fb)) :
    PE X (.Compare a [op] [b] pos) (tE T Wx fun ρ l => (fa ρ l).bind fun x l => (fb ρ l).bind fun y l => ret (op2W l o x y) l) := by
  refine ⟨fun pins s σ H Q I ⟨F, ms, ρ, l, S, E, h⟩ => ?_⟩
  refine wpAny_Compare1 (runE ha I S E h fun u s1 v H1 F1 ms1 w l1 I1 r1 t1 S1 E1 p1 h1 => runE hb I1 S1 E1 h1 fun u2 s2 v2 H2 F2 ms2 w2 l2 I2 r2 t2 S2 E2 p2 h2 => ?_) (marks_id op hn)
  obtain ⟨d, e, h3⟩ := Fin.ret h2
  exact ow_cmp C.pw C.u64 ho pins s2 σ H2 F2 ms2 (l2) v v2 u u2 w w2 d Q I2 r1 r2 S2 (p1.stp t2) p2 e h3.kw
theorem cmp_pt {o : Op2} {op : CmpOp} {a b : Expr} {fa fb : Env → Loc → Res W} {pos : Pos} (C : Cxt T k X sc Wx) (ho : okCmp o op = true) (hn : nset b = true) (ha : PE X a (tE T Wx fa)) (hb : PE X b (tE T Wx fb)) :
    PT X (.Compare a [op] [b] pos) (tT T Wx fun ρ l => ((fa ρ l).bind fun x l => (fb ρ l).bind fun y l => ret (op2W l o x y) l).bind fun x l => ret (trW l x) l) := by
  refine ⟨fun pins s σ H Q I ⟨F, ms, ρ, l, S, E, h⟩ => ?_⟩
  have h0 : Fin T (fun c d H' => Wx c d σ H') F ms H ((fa ρ l).bind fun x l => (fb ρ l).bind fun y l => (ret (op2W l o x y) l).bind fun x l => ret (trW l x) l) (fun b _ _ _ H' => Q b H') := by
    have e1 : ∀ (r : Res W) (f : W → Loc → Res W) (g : W → Loc → Res Bool), (r.bind f).bind g = r.bind fun a l => (f a l).bind g := fun r f g => by cases r <;> rfl
    dsimp only at h
    rw [e1] at h
    simp only [e1] at h
    exact h
  refine wpAny_isTrue_Compare1 (runE ha I S E h0 fun u s1 v H1 F1 ms1 w l1 I1 r1 t1 S1 E1 p1 h1 => runE hb I1 S1 E1 h1 fun u2 s2 v2 H2 F2 ms2 w2 l2 I2 r2 t2 S2 E2 p2 h2 => ?_) (marks_id op hn)
  cases q : op2W (l2) o w w2 with
  | none => rw [q] at h2; exact h2.elim
  | some d =>
    rw [q] at h2
    refine thn (ow_cmp C.pw C.u64 ho pins s2 σ H2 F2 ms2 (l2) v v2 u u2 w w2 d (fun z H3 => ∃ F3, Stp F2 ms2 H2 F3 ms2 H3 ∧ SRel F3 ms2 (l2) H3 ∧ Rp F3 ms2 z d) I2 r1 r2 S2 (p1.stp t2) p2 q fun F' H' z t S p => ⟨F', t, S, p⟩) fun c s3 ⟨z, H3, I3, r3, F3, t3, S3, p3⟩ => ?_
    have h3 : Fin T (fun c d H' => Wx c d σ H') F3 ms2 H3 (ret (trW (l2) d) l2) (fun b _ _ _ H' => Q b H') := Fin.shift t3 h2
    obtain ⟨b, e, h4⟩ := Fin.ret h3
    exact tr_ok I3 r3 S3 p3 e (Fin.here h4 S3)
noncomputable def chF (o1 o2 : Op2) (fa fb fc : Env → Loc → Res W) : Env → Loc → Res W := fun ρ l => (fa ρ l).bind fun x l => (fb ρ l).bind fun y l => (ret (op2W l o1 x y) l).bind fun t l => match t with
  | .d (.bl true) => (fc ρ l).bind fun z l => ret (op2W l o2 y z) l
  | .d (.bl false) => .ok (.d (.bl false)) l
  | _ => .bad
theorem marks2_id {b c : Expr} (op op' : CmpOp) (h : nset c = true) : lastMarks [op, op'] [b, c] = false := marks_id op' h
theorem chain_pe {o1 o2 : Op2} {op1 op2 : CmpOp} {a b c : Expr} {fa fb fc : Env → Loc → Res W} {pos : Pos} (C : Cxt T k X sc Wx) (ho1 : okCmp o1 op1 = true) (ho2 : okCmp o2 op2 = true) (hn : nset c = true) (ha : PE X a (tE T Wx fa)) (hb : PE X b (tE T Wx fb)) (hc : PE X c (tE T Wx fc)) :
    PE X (.Compare a [op1, op2] [b, c] pos) (tE T Wx (chF o1 o2 fa fb fc)) := by
  refine ⟨fun pins s σ H Q I ⟨F, ms, ρ, l, S, E, h⟩ => ?_⟩
  refine Compare_chain (runE ha I S E h fun u s1 v H1 F1 ms1 w l1 I1 r1 t1 S1 E1 p1 h1 => chain_link (runE hb I1 S1 E1 h1 fun u2 s2 v2 H2 F2 ms2 w2 l2 I2 r2 t2 S2 E2 p2 h2 => ?_)) (marks2_id op1 op2 hn)
  obtain ⟨d, e, h3⟩ := Fin.ret (Fin.bind h2)
  refine thn (ow_cmp C.pw C.u64 ho1 pins s2 σ H2 F2 ms2 (l2) v v2 u u2 w w2 d (fun z H3 => ∃ F3, Stp F2 ms2 H2 F3 ms2 H3 ∧ SRel F3 ms2 (l2) H3 ∧ Rp F3 ms2 z d) I2 r1 r2 S2 (p1.stp t2) p2 e fun F' H' z t S p => ⟨F', t, S, p⟩) fun c3 s3 ⟨z, H3, I3, r3, F3, t3, S3, p3⟩ => ?_
  have h4 := h3 F3 ms2 H3 t3 S3
  cases d with
  | r n => exact h4.elim
  | d x =>
    cases x <;> first | exact h4.elim | skip
    rename_i kk _
    cases (show z = V.bl kk from p3)
    cases r3
    refine wpAny_truthy_bool ?_
    cases kk with
    | false => exact ite_ff (endE (v := V.bl false) (w := .d (.bl false)) I3 rfl S3 rfl h4)
    | true =>
      refine ite_tt (chain_last (runE hc I3 S3 (E2.stp t3) h4 fun u4 s4 v4 H4 F4 ms4 w4 l4 I4 r4 t4 S4 E4 p4 h5 => ?_))
      obtain ⟨d', e', h6⟩ := Fin.ret h5
      exact ow_cmp C.pw C.u64 ho2 pins s4 σ H4 F4 ms4 (l4) v2 v4 u2 u4 w2 w4 d' Q I4 r2 r4 S4 ((p2.stp t3).stp t4) p4 e' h6.kw
theorem chain_pt {o1 o2 : Op2} {op1 op2 : CmpOp} {a b c : Expr} {fa fb fc : Env → Loc → Res W} {pos : Pos} (C : Cxt T k X sc Wx) (ho1 : okCmp o1 op1 = true) (ho2 : okCmp o2 op2 = true) (hn : nset c = true) (ha : PE X a (tE T Wx fa)) (hb : PE X b (tE T Wx fb)) (hc : PE X c (tE T Wx fc)) :
    PT X (.Compare a [op1, op2] [b, c] pos) (tT T Wx fun ρ l => (chF o1 o2 fa fb fc ρ l).bind fun x l => ret (trW l x) l) := by
  refine ⟨fun pins s σ H Q I ⟨F, ms, ρ, l, S, E, h⟩ => ?_⟩
  have e1 : ∀ (r : Res W) (f : W → Loc → Res W) (g : W → Loc → Res Bool), (r.bind f).bind g = r.bind fun a l => (f a l).bind g := fun r f g => by cases r <;> rfl
  have h0 : Fin T (fun c d H' => Wx c d σ H') F ms H ((fa ρ l).bind fun x l => (fb ρ l).bind fun y l => ((ret (op2W l o1 x y) l).bind fun t l => match t with
      | .d (.bl true) => (fc ρ l).bind fun z l => ret (op2W l o2 y z) l
      | .d (.bl false) => .ok (.d (.bl false)) l
      | _ => .bad).bind fun x l => ret (trW l x) l) (fun b _ _ _ H' => Q b H') := by
    dsimp only at h
    unfold chF at h
    rw [e1] at h
    have e2 : (fun a l => ((fb ρ l).bind fun y l => (ret (op2W l o1 a y) l).bind fun t l => match t with
      | .d (.bl true) => (fc ρ l).bind fun z l => ret (op2W l o2 y z) l
      | .d (.bl false) => .ok (.d (.bl false)) l
      | _ => .bad).bind fun x l => ret (trW l x) l) = fun x l => (fb ρ l).bind fun y l => ((ret (op2W l o1 x y) l).bind fun t l => match t with
      | .d (.bl true) => (fc ρ l).bind fun z l => ret (op2W l o2 y z) l
      | .d (.bl false) => .ok (.d (.bl false)) l
      | _ => .bad).bind fun x l => ret (trW l x) l := by
      funext a l
      exact e1 _ _ _
    rw [e2] at h
    exact h
  refine isTrue_chain (runE ha I S E h0 fun u s1 v H1 F1 ms1 w l1 I1 r1 t1 S1 E1 p1 h1 => test_link (runE hb I1 S1 E1 h1 fun u2 s2 v2 H2 F2 ms2 w2 l2 I2 r2 t2 S2 E2 p2 h2 => ?_)) (marks2_id op1 op2 hn)
  rw [e1] at h2
  obtain ⟨d, e, h3⟩ := Fin.ret (Fin.bind h2)
  refine thn (ow_cmp C.pw C.u64 ho1 pins s2 σ H2 F2 ms2 (l2) v v2 u u2 w w2 d (fun z H3 => ∃ F3, Stp F2 ms2 H2 F3 ms2 H3 ∧ SRel F3 ms2 (l2) H3 ∧ Rp F3 ms2 z d) I2 r1 r2 S2 (p1.stp t2) p2 e fun F' H' z t S p => ⟨F', t, S, p⟩) fun c3 s3 ⟨z, H3, I3, r3, F3, t3, S3, p3⟩ => ?_
  have h4 := h3 F3 ms2 H3 t3 S3
  cases d with
  | r n => exact h4.elim
  | d x =>
    cases x <;> first | exact h4.elim | skip
    rename_i kk _
    cases (show z = V.bl kk from p3)
    cases r3
    refine wpAny_truthy_bool ?_
    cases kk with
    | false => exact ite_ff ⟨H3, I3, Fin.here (a := false) h4 S3⟩
    | true =>
      have h4' : Fin T (fun c d H' => Wx c d σ H') F3 ms2 H3 ((fc ρ l2).bind fun z l => (ret (op2W l o2 w2 z) l).bind fun x l => ret (trW l x) l) (fun b _ _ _ H' => Q b H') := by
        rw [← e1]; exact h4
      refine ite_tt (test_last (runE hc I3 S3 (E2.stp t3) h4' fun u4 s4 v4 H4 F4 ms4 w4 l4 I4 r4 t4 S4 E4 p4 h5 => ?_))
      obtain ⟨d', e', h6⟩ := Fin.ret (Fin.bind h5)
      refine thn (ow_cmp C.pw C.u64 ho2 pins s4 σ H4 F4 ms4 (l4) v2 v4 u2 u4 w2 w4 d' (fun z H5 => ∃ F5, Stp F4 ms4 H4 F5 ms4 H5 ∧ SRel F5 ms4 (l4) H5 ∧ Rp F5 ms4 z d') I4 r2 r4 S4 ((p2.stp t3).stp t4) p4 e' fun F' H' z t S p => ⟨F', t, S, p⟩) fun c5 s5 ⟨z5, H5, I5, r5, F5, t5, S5, p5⟩ => ?_
      have h7 := Fin.shift (r := ret (trW (l4) d') l4) t5 (h6 F4 ms4 H4 Stp.refl S4)
      obtain ⟨b, e7, h8⟩ := Fin.ret h7
      exact tr_ok I5 r5 S5 p5 e7 (Fin.here h8 S5)
theorem and_pe {a b : Expr} {rest : List Expr} {fa fb : Env → Loc → Res W} {pos : Pos} (ha : PE X a (tE T Wx fa)) (hb : PE X (.BoolOp .And (b :: rest) pos) (tE T Wx fb)) :
    PE X (.BoolOp .And (a :: b :: rest) pos) (tE T Wx fun ρ l => (fa ρ l).bind fun x l => (ret (trW l x) l).bind fun t l => match t with
      | true => fb ρ l
      | false => .ok x l) := by
  refine ⟨fun pins s σ H Q I ⟨F, ms, ρ, l, S, E, h⟩ => ?_⟩
  refine BoolOp_and (runE ha I S E h fun u s1 v H1 F1 ms1 w l1 I1 r1 t1 S1 E1 p1 h1 => ?_)
  obtain ⟨t, e, h2⟩ := Fin.ret (Fin.bind h1)
  have h3 := Fin.here h2 S1
  refine thn (tr_ok (Q := fun c H2 => c = t ∧ H2 = H1) I1 r1 S1 p1 e ⟨rfl, rfl⟩) fun c s2 hc => ?_
  obtain ⟨H2, I2, e1, e2⟩ := hc
  subst e1
  rw [e2] at I2
  cases c with
  | true => exact hb.run pins s2 σ H1 Q I2 ⟨F1, ms1, ρ, l1, S1, E1, h3⟩
  | false => exact endE I2 r1 S1 p1 h3
theorem or_pe {a b : Expr} {rest : List Expr} {fa fb : Env → Loc → Res W} {pos : Pos} (ha : PE X a (tE T Wx fa)) (hb : PE X (.BoolOp .Or (b :: rest) pos) (tE T Wx fb)) :
    PE X (.BoolOp .Or (a :: b :: rest) pos) (tE T Wx fun ρ l => (fa ρ l).bind fun x l => (ret (trW l x) l).bind fun t l => match t with
      | true => .ok x l
      | false => fb ρ l) := by
  refine ⟨fun pins s σ H Q I ⟨F, ms, ρ, l, S, E, h⟩ => ?_⟩
  refine BoolOp_or (runE ha I S E h fun u s1 v H1 F1 ms1 w l1 I1 r1 t1 S1 E1 p1 h1 => ?_)
  obtain ⟨t, e, h2⟩ := Fin.ret (Fin.bind h1)
  have h3 := Fin.here h2 S1
  refine thn (tr_ok (Q := fun c H2 => c = t ∧ H2 = H1) I1 r1 S1 p1 e ⟨rfl, rfl⟩) fun c s2 hc => ?_
  obtain ⟨H2, I2, e1, e2⟩ := hc
  subst e1
  rw [e2] at I2
  cases c with
  | true => exact endE I2 r1 S1 p1 h3
  | false => exact hb.run pins s2 σ H1 Q I2 ⟨F1, ms1, ρ, l1, S1, E1, h3⟩
theorem not_pe {a : Expr} {fa : Env → Loc → Res W} {pos : Pos} (ha : PE X a (tE T Wx fa)) :
    PE X (.UnaryOp .Not a pos) (tE T Wx fun ρ l => (fa ρ l).bind fun x l => (ret (trW l x) l).bind fun t l => .ok (.d (.bl (!t))) l) := by
  refine ⟨fun pins s σ H Q I ⟨F, ms, ρ, l, S, E, h⟩ => ?_⟩
  refine UnaryOp_ (runE ha I S E h fun u s1 v H1 F1 ms1 w l1 I1 r1 t1 S1 E1 p1 h1 => ?_)
  obtain ⟨t, e, h2⟩ := Fin.ret (Fin.bind h1)
  have h3 := Fin.here h2 S1
  refine not_of (thn (tr_ok (Q := fun c H2 => c = t ∧ H2 = H1) I1 r1 S1 p1 e ⟨rfl, rfl⟩) fun c s2 hc => ?_)
  obtain ⟨H2, I2, e1, e2⟩ := hc
  subst e1
  rw [e2] at I2
  exact endE (v := V.bl (!c)) (w := .d (.bl (!c))) I2 rfl S1 rfl h3
theorem neg_pe {a : Expr} {fa : Env → Loc → Res W} {pos : Pos} (ha : PE X a (tE T Wx fa)) :
    PE X (.UnaryOp .USub a pos) (tE T Wx fun ρ l => (fa ρ l).bind fun x l => match x with
      | .d (.int i) => .ok (.d (.int (-i))) l
      | _ => .bad) := by
  refine ⟨fun pins s σ H Q I ⟨F, ms, ρ, l, S, E, h⟩ => ?_⟩
  refine UnaryOp_ (runE ha I S E h fun u s1 v H1 F1 ms1 w l1 I1 r1 t1 S1 E1 p1 h1 => ?_)
  cases w with
  | r n => exact h1.elim
  | d x =>
    cases x <;> first | exact h1.elim | skip
    rename_i i
    cases (show v = V.int i from p1)
    exact un_neg pins s1 σ H1 _ u Q I1 r1 ⟨i, rfl, Fin.here h1 S1 _ rfl⟩
theorem ite_pe {c a b : Expr} {fc : Env → Loc → Res Bool} {fa fb : Env → Loc → Res W} {pos : Pos} (hc : PT X c (tT T Wx fc)) (ha : PE X a (tE T Wx fa)) (hb : PE X b (tE T Wx fb)) :
    PE X (.IfExp c a b pos) (tE T Wx fun ρ l => (fc ρ l).bind fun t l => match t with
      | true => fa ρ l
      | false => fb ρ l) := by
  refine ⟨fun pins s σ H Q I ⟨F, ms, ρ, l, S, E, h⟩ => ?_⟩
  refine wpAny_IfExp (runT hc I S E h fun t s1 H1 F1 ms1 l1 I1 t1 S1 E1 h1 => ?_)
  cases t with
  | true => exact ha.run pins s1 σ H1 Q I1 ⟨F1, ms1, ρ, l1, S1, E1, h1⟩
  | false => exact hb.run pins s1 σ H1 Q I1 ⟨F1, ms1, ρ, l1, S1, E1, h1⟩
theorem last_at {p : Addr} (S : SRel F ms l H) : (ms ++ [p])[l.length]? = some p := by
  rw [← S.len, List.getElem?_append_right (Nat.le_refl _), Nat.sub_self]; rfl
theorem tup_pe {es : List Expr} {fe : Env → Loc → Res (List W)} {n : Nat} {pos : Pos} (ha : PA X es (tA T Wx fe)) :
    PE X (.Tuple es n pos) (tE T Wx fun ρ l => (fe ρ l).bind fun ws l => mkTup ws l) := by
  refine pe_mono (pe_tup ha) fun σ H Q ⟨F, ms, ρ, l, S, E, h⟩ => ⟨F, ms, ρ, l, S, E, (Fin.bind h).mono fun ws l1 F1 ms1 H1 t1 S1 z vs p => ?_⟩
  unfold mkTup at z
  split at z
  · rename_i hz
    cases q : unW ws with
    | some ds =>
      rw [q] at z
      have R := p.un q
      exact ⟨by rw [p.len, line_eq]; exact hz, fun r hr => (Fin.kd z).tup S1 R hr⟩
    | none =>
      rw [q] at z
      refine ⟨by rw [p.len, line_eq]; exact hz, fun r hr => ?_⟩
      refine z F1 (ms1 ++ [r]) _ (Stp.make hr) (S1.make hr ⟨S1.notF hr, vs, upd_same, p.mono (fun _ _ h => h) (List.prefix_append _ _)⟩) _ ⟨r, last_at S1, rfl⟩
  · exact z.elim
theorem mk_lst {m : Bool} {ws : List W} {vs : List V} {E : XK} {Q : VK} (S : SRel F ms l H) (p : RpL F ms vs ws) (h : Fin T E F ms H (mkLst m ws l) (kE Q)) :
    vs.length ≤ sizeLine ∧ ∀ r, H r = none → Q (.ref r) (upd H r (.lst vs)) := by
  unfold mkLst at h
  split at h
  · rename_i hz
    refine ⟨by rw [p.len, line_eq]; exact hz, fun r hr => ?_⟩
    cases m with
    | true =>
      have S2 : SRel F (ms ++ [r]) ((l ++ [.lst ws])) (upd H r (.lst vs)) := by
        exact S.make hr ⟨S.notF hr, vs, upd_same, p.mono (fun _ _ h => h) (List.prefix_append _ _)⟩
      refine h F (ms ++ [r]) _ (Stp.make hr) S2 _ ⟨r, ?_, rfl⟩
      have e : l.length = ms.length := S.len.symm
      rw [e, List.getElem?_append_right (Nat.le_refl _), Nat.sub_self]; rfl
    | false =>
      obtain ⟨w, e, h1⟩ := Fin.ret h
      cases q : unW ws with
      | none => rw [q] at e; cases e
      | some ds =>
        rw [q] at e
        cases (show some (W.d (.lst ds)) = some w from e)
        exact h1.kd.lst S (p.un q) hr
  · exact h.elim
theorem dnew_pe {pos : Pos} (C : Cxt T k X sc Wx) : PE X (.Dict [] [] pos) (tE T Wx fun ρ l => .ok (.r l.length) (l ++ [.dct 0 []])) := by
  refine ⟨fun pins s σ H Q I ⟨F, ms, ρ, l, S, E, h⟩ => ?_⟩
  have hp := I.hok.fresh (Nat.le_refl s.heap.objs.size)
  have he : (s.heap.push { cls := .type "dict", data := .dict #[] }).get? s.heap.objs.size = some { cls := .type "dict", data := .dict #[] } := Heap.get?_push_size _ rfl
  obtain ⟨F', t, S'⟩ := dx_new (ks' := []) C.pw S hp he (beq_eq_false_iff_ne.mpr (Ne.symm (Nat.ne_of_lt I.big))) (Nat.zero_le _) (.inl ⟨[], ⟨⟨rfl, rfl, rfl⟩, #[], 0, rfl, (fun e he => by simp at he), .nil, List.nodup_nil⟩, trivial⟩)
  have I' : Inv X pins σ (upd H s.heap.objs.size (obE s.heap.objs.size { cls := .type "dict", data := .dict #[] })) { s with heap := s.heap.push { cls := .type "dict", data := .dict #[] } } :=
    I.laid (a := s.heap.objs.size) (t' := s.toks) (fun _ _ q => Heap.get?_push_of_some _ q) (Nat.le_refl _) ⟨he, ⟨_, he⟩, fun h1 h2 g k => k _ g⟩
  exact wpAny_Dict_empty ⟨.ref s.heap.objs.size, _, I', rfl, h F' _ _ t S' _ ⟨_, last_at S, rfl⟩⟩
theorem dnewF_pe {pos : Pos} : PE X (.Dict [] [] pos) (tE T Wx fun ρ l => .ok (.d (.dct [])) l) := by
  refine pe_mono pe_dnewK fun σ H Q ⟨F, ms, ρ, l, S, E, h⟩ p hp => ?_
  have t := Stp.lay (o := .dK []) S hp
  refine h _ ms _ t (S.lay hp) _ ?_
  show Rep _ _ (.dct [])
  unfold Rep
  exact ⟨rfl, p, rfl, upd_same⟩
theorem lst_pe {m : Bool} {es : List Expr} {fe : Env → Loc → Res (List W)} {pos : Pos} (ha : PA X es (tA T Wx fe)) : PE X (.List es pos) (tE T Wx fun ρ l => (fe ρ l).bind fun ws l => mkLst m ws l) :=
  pe_mono (pe_lst ha) fun σ H Q ⟨F, ms, ρ, l, S, E, h⟩ => ⟨F, ms, ρ, l, S, E, (Fin.bind h).mono fun ws l1 F1 ms1 H1 t1 S1 z vs p => mk_lst S1 p z⟩
theorem idx_pe {a b : Expr} {fa fb : Env → Loc → Res W} {pos : Pos} (C : Cxt T k X sc Wx) (hn : nsl b = true) (ha : PE X a (tE T Wx fa)) (hb : PE X b (tE T Wx fb)) :
    PE X (.Subscript a b pos) (tE T Wx fun ρ l => (fa ρ l).bind fun x l => (fb ρ l).bind fun y l => ret (idxW l x y) l) := by
  refine ⟨fun pins s σ H Q I ⟨F, ms, ρ, l, S, E, h⟩ => ?_⟩
  refine Subscript_ (runE ha I S E h fun u s1 v H1 F1 ms1 w l1 I1 r1 t1 S1 E1 p1 h1 => runE hb I1 S1 E1 h1 fun u2 s2 v2 H2 F2 ms2 w2 l2 I2 r2 t2 S2 E2 p2 h2 => ?_)
  obtain ⟨d, e, h3⟩ := Fin.ret h2
  exact ix_ok C.pw (by have := C.un; omega) I2 r1 r2 S2 (p1.stp t2) p2 e h3.kw (plain_ix hn _ _)
/-- an optional part -/
def tO (T : Tab) (Wx : WX) (f : Env → Loc → Res (Option Int)) : TO := fun σ H Q =>
  ∃ (F : Gh) (ms : List Addr) (ρ : Env) (l : Loc), SRel F ms l H ∧ EnvR F ms ρ σ ∧ Fin T (fun c d H' => Wx c d σ H') F ms H (f ρ l) (fun o _ _ _ H' => Q o H')
theorem po_no : PO X none (tO T Wx fun _ l => .ok none l) := by
  refine ⟨fun pins s σ H Q I ⟨F, ms, ρ, l, S, E, h⟩ => ?_⟩
  exact po_none.run pins s σ H Q I (Fin.here h S)
theorem po_so {e : Expr} {f : Env → Loc → Res W} (ha : PE X e (tE T Wx f)) : PO X (some e) (tO T Wx fun ρ l => (f ρ l).bind fun w l => match w with
    | .d (.int i) => .ok (some i) l
    | _ => .bad) := by
  refine ⟨fun pins s σ H Q I ⟨F, ms, ρ, l, S, E, h⟩ => ?_⟩
  refine (po_some ha).run pins s σ H Q I ⟨F, ms, ρ, l, S, E, (Fin.bind h).mono fun w l1 F1 ms1 H1 t1 S1 z v p => ?_⟩
  cases w with
  | r n => exact z.elim
  | d x =>
    cases x <;> first | exact z.elim | skip
    rename_i i
    cases (show v = V.int i from p)
    exact ⟨i, rfl, Fin.here z S1⟩
theorem sl_pe {a : Expr} {lo hi : Option Expr} {fa : Env → Loc → Res W} {fl fh : Env → Loc → Res (Option Int)} {pos p2 : Pos} (ha : PE X a (tE T Wx fa)) (hl : PO X lo (tO T Wx fl)) (hh : PO X hi (tO T Wx fh)) :
    PE X (.Subscript a (.Slice lo hi none p2) pos) (tE T Wx fun ρ l => (fa ρ l).bind fun x l => (fl ρ l).bind fun p l => (fh ρ l).bind fun q l =>
      ret ((pk l x).bind fun d => (slD d p q).map .d) l) := by
  refine pe_mono (pe_slice sl_ok ha hl hh) fun σ H Q ⟨F, ms, ρ, l, S, E, h⟩ => ⟨F, ms, ρ, l, S, E, (Fin.bind h).mono fun w l1 F1 ms1 H1 t1 S1 z1 v p =>
    ⟨F1, ms1, ρ, l1, S1, E.stp t1, (Fin.bind z1).mono fun a l2 F2 ms2 H2 t2 S2 z2 => ⟨F2, ms2, ρ, l2, S2, (E.stp t1).stp t2, (Fin.bind z2).mono fun b l3 F3 ms3 H3 t3 S3 z3 => ?_⟩⟩⟩
  obtain ⟨wr, e, h1⟩ := Fin.ret z3
  cases q : pk (l3) w with
  | none => rw [q] at e; cases e
  | some d =>
    rw [q] at e
    cases q2 : slD d a b with
    | none => simp [q2] at e
    | some d2 =>
      simp [q2] at e
      subst e
      exact ⟨F3, ms3, l3, d, d2, S3, S3.pk ((p.stp t2).stp t3) q, q2, h1.kd⟩
/-! built-in functions and methods -/
theorem bi_pe {b : Bi} {x : Str} {e : Expr} {fa : Env → Loc → Res W} {p pos : Pos} (C : Cxt T k X sc Wx) (hg : okG sc x = true) (hx : x = biName b) (hb : ∀ t, b ≠ .isi t) (hn : nst e = true) (ha : PE X e (tE T Wx fa)) :
    PE X (.Call (.Name x p) [e] [] pos) (tE T Wx fun ρ l => (fa ρ l).bind fun x l => ret ((pk l x).bind fun d => (biD b d).map .d) l) := by
  obtain ⟨g1, g2⟩ := gl_of C.sc hg
  have key : ∀ {f : Value}, FnD X f (biD b) → CallR X f (fun xs H Q => ∃ (v : V) (F : Gh) (ms : List Addr) (l : Loc) (w wr : W), xs = [v] ∧ SRel F ms l H ∧ Rp F ms v w ∧ ((pk l w).bind fun d => (biD b d).map .d) = some wr ∧ Kw F ms l H Q wr) := by
    intro f hf pins s σ H xs us Q I r ⟨v, F, ms, l, w, wr, ex, S, p, e, k⟩
    cases q : pk l w with
    | none => rw [q] at e; cases e
    | some d =>
      rw [q] at e
      cases q2 : biD b d with
      | none => simp [q2] at e
      | some d2 =>
        simp [q2] at e
        subst e
        exact hf pins s σ H xs us Q I r ⟨v, F, ms, l, d, d2, ex, S, S.pk p q, q2, fun F' H' z t S p => k F' H' z t S p⟩
  have fin : ∀ {r : List V → Hp → VK → Prop}, (∀ xs H Q, (∃ (v : V) (F : Gh) (ms : List Addr) (l : Loc) (w wr : W), xs = [v] ∧ SRel F ms l H ∧ Rp F ms v w ∧ ((pk l w).bind fun d => (biD b d).map .d) = some wr ∧ Kw F ms l H Q wr) → r xs H Q) →
      PE X (.Call (.Name x p) [e] [] pos) (tCB r (tCons (tE T Wx fa) tNil)) → PE X (.Call (.Name x p) [e] [] pos) (tE T Wx fun ρ l => (fa ρ l).bind fun x l => ret ((pk l x).bind fun d => (biD b d).map .d) l) := by
    intro r hr hp
    refine pe_mono hp fun σ H Q ⟨F, ms, ρ, l, S, E, h⟩ => ⟨F, ms, ρ, l, S, E, (Fin.bind h).mono fun w l1 F1 ms1 H1 t1 S1 z1 v p => hr _ _ _ ?_⟩
    obtain ⟨wr, e, h1⟩ := Fin.ret z1
    exact ⟨v, F1, ms1, l1, w, wr, rfl, S1, p, e, h1.kw⟩
  have hA : PA X [e] (tCons (tE T Wx fa) tNil) := pa_cons ha pa_nil (star_cons hn)
  subst hx
  cases b with
  | len => exact fin (fun _ _ _ h => h) (pe_callB (key fd_len) g1 (C.facts.fr _ (by simp [biName])) (by decide +kernel) hA (by decide +kernel) (by decide +kernel) (star_cons hn))
  | abs => exact fin (fun _ _ _ h => h) (pe_callB (key fd_abs) g1 (C.facts.fr _ (by simp [biName])) (by decide +kernel) hA (by decide +kernel) (by decide +kernel) (star_cons hn))
  | int => exact fin (fun _ _ _ h => h) (pe_callTy (key fd_int) g1 (C.facts.fr _ (by simp [biName])) (by decide +kernel) hA (by decide +kernel) (by decide +kernel) (star_cons hn))
  | tup => exact fin (fun _ _ _ h => h) (pe_callTy (key fd_tup) g1 (C.facts.fr _ (by simp [biName])) (by decide +kernel) hA (by decide +kernel) (by decide +kernel) (star_cons hn))
  | lst => exact fin (fun _ _ _ h => h) (pe_callTy (key fd_lst) g1 (C.facts.fr _ (by simp [biName])) (by decide +kernel) hA (by decide +kernel) (by decide +kernel) (star_cons hn))
  | isi t => exact absurd rfl (hb t)
theorem ty_pe {t : Ty} {y : Str} {p : Pos} (C : Cxt T k X sc Wx) (hg : okG sc y = true) (hy : y = Str.ofString (tyName t)) (ht : ∀ c, t ≠ .cls c) : PE X (.Name y p) (tC (.ty (tyName t))) := by
  obtain ⟨g1, g2⟩ := gl_of C.sc hg
  subst hy
  cases t with
  | cls c => exact absurd rfl (ht c)
  | str => exact pe_bltn g1 (C.facts.fr _ (by simp [tyName])) (by decide +kernel) rfl (by decide +kernel) g2
  | bool => exact pe_bltn g1 (C.facts.fr _ (by simp [tyName])) (by decide +kernel) rfl (by decide +kernel) g2
  | int => exact pe_bltn g1 (C.facts.fr _ (by simp [tyName])) (by decide +kernel) rfl (by decide +kernel) g2
  | lst => exact pe_bltn g1 (C.facts.fr _ (by simp [tyName])) (by decide +kernel) rfl (by decide +kernel) g2
  | tup => exact pe_bltn g1 (C.facts.fr _ (by simp [tyName])) (by decide +kernel) rfl (by decide +kernel) g2
theorem isi_pe {t : Ty} {x y : Str} {e : Expr} {fa : Env → Loc → Res W} {p p2 pos : Pos} (C : Cxt T k X sc Wx) (hg : okG sc x = true) (hx : x = "isinstance") (hg2 : okG sc y = true) (hy : y = Str.ofString (tyName t)) (ht : ∀ c, t ≠ .cls c) (hn : nst e = true) (ha : PE X e (tE T Wx fa)) :
    PE X (.Call (.Name x p) [e, .Name y p2] [] pos) (tE T Wx fun ρ l => (fa ρ l).bind fun x l => ret ((pk l x).bind fun d => (biD (.isi t) d).map .d) l) := by
  obtain ⟨g1, g2⟩ := gl_of C.sc hg
  subst hx
  have hA : PA X [e, .Name y p2] (tCons (tE T Wx fa) (tCons (tC (.ty (tyName t))) tNil)) := pa_cons ha (pa_cons (ty_pe C hg2 hy ht) pa_nil) (star_cons hn)
  have key : CallR X (.builtin "isinstance") (fun xs H Q => ∃ (v : V) (F : Gh) (ms : List Addr) (l : Loc) (w wr : W), xs = [v, .ty (tyName t)] ∧ SRel F ms l H ∧ Rp F ms v w ∧ ((pk l w).bind fun d => (biD (.isi t) d).map .d) = some wr ∧ Kw F ms l H Q wr) := by
    intro pins s σ H xs us Q I r ⟨v, F, ms, l, w, wr, ex, S, p, e, k⟩
    cases q : pk l w with
    | none => rw [q] at e; cases e
    | some d =>
      rw [q] at e
      cases q2 : isTy t d with
      | none => simp [biD, q2] at e
      | some b =>
        simp [biD, q2] at e
        subst e
        exact isi_ok q2 pins s σ H xs us Q I r ⟨v, F, ex, S.pk p q, k F H _ Stp.refl S rfl⟩
  refine pe_mono (pe_callB key g1 (C.facts.fr _ (by simp)) (by decide +kernel) hA (by decide +kernel) (by decide +kernel) (star_cons hn)) fun σ H Q ⟨F, ms, ρ, l, S, E, h⟩ => ⟨F, ms, ρ, l, S, E, (Fin.bind h).mono fun w l1 F1 ms1 H1 t1 S1 z1 v p => ?_⟩
  obtain ⟨wr, e, h1⟩ := Fin.ret z1
  exact ⟨v, F1, ms1, l1, w, wr, rfl, S1, p, e, h1.kw⟩

theorem SRel.pks {st : Loc} (S : SRel F ms st H) : ∀ {vs : List V} {ws : List W} {ds : List D}, RpL F ms vs ws → pkL st ws = some ds → Paired (Pk F H) vs ds
  | [], [], ds, _, e => by cases (show some [] = some ds from e); exact .nil
  | v :: vs, w :: ws, ds, ⟨h, t⟩, e => by
    cases q : Vx.pk st w with
    | none => simp [Vx.pkL, q] at e
    | some d =>
      cases q2 : Vx.pkL st ws with
      | none => simp [Vx.pkL, q, q2] at e
      | some es =>
        simp [Vx.pkL, q, q2] at e
        subst e
        exact .cons (S.pk h q) (SRel.pks S t q2)
  | [], _ :: _, _, h, _ => h.elim
  | _ :: _, [], _, h, _ => h.elim
theorem lst_rcv {st : Loc} {w : W} (h : isLstW (Vx.pk st w) = true) : ∃ ds, Vx.pk st w = some (.lst ds) := by
  cases q : Vx.pk st w with
  | none => rw [q] at h; cases h
  | some d =>
    rw [q] at h
    cases d <;> first | exact ⟨_, rfl⟩ | cases h
theorem few_ok {xs : List Expr} {cpos : Pos} {env : PySem.Env} (hx : xs.all nst = true) (hl : Nat.blt xs.length 29 = true) : ((backTo cpos (starEach xs env)).all (fun x => !x.1) && (backToKw cpos (keywordEach [] env)).all (fun x => x.1.isSome)
      && decide (xs.length + ([] : List Keyword).length + (if ([] : List Keyword).isEmpty then 0 else 1) < 30)) = true := by
  have h1 : (backTo cpos (starEach xs env)).all (fun x => !x.1) = true := by
    have h := star_any (pos := cpos) (env := env) hx
    rw [List.any_eq_false] at h
    rw [List.all_eq_true]
    intro x hm
    have := h x hm
    simpa using this
  have h2 : xs.length < 29 := by simpa [Nat.blt_eq] using hl
  rw [h1]
  simp [backToKw, keywordEach]
  omega
theorem str_pe {m : Sm} {id : String} {o : Expr} {xs : List Expr} {apos cpos : Pos} {fa : Env → Loc → Res W} {fe : Env → Loc → Res (List W)}
    (hm0 : strM m = true) (slot : Slot "str" (smName m) id) (hty : typeOf (.builtin id) = pure (.type "method_descriptor")) (hm : MtD X id (smD m)) (hs : nsup o = true) (hline : (apos.endLine == cpos.line) = true) (hx : xs.all nst = true) (hl : Nat.blt xs.length 29 = true)
    (ho : PE X o (tE T Wx fa)) (ha : PA X xs (tA T Wx fe)) (hnil : xs = [] → ∀ ρ l, fe ρ l = .ok [] l) :
    PE X (.Call (.Attribute o (smName m) apos) xs [] cpos) (tE T Wx fun ρ l => (fa ρ l).bind fun x l => match rcv l m x with
      | true => (fe ρ l).bind fun ws l => smW m x ws l
      | false => .bad) := by
  have rc : ∀ {st : Loc} {w : W}, rcv st m w = true → ∃ z, w = .d (.str z) := by
    intro st w h
    cases m <;> first | exact absurd hm0 Bool.false_ne_true | skip
    all_goals
      cases w with
      | r n => cases h
      | d x => cases x <;> first | exact ⟨_, rfl⟩ | cases h
  have sw : ∀ (w : W) (ws : List W) (l : Loc), smW m w ws l = ret ((pk l w).bind fun d => (pkL l ws).bind fun ds => (smD m d ds).map .d) l := by
    intro w ws l
    cases m <;> first | exact absurd hm0 Bool.false_ne_true | rfl
  have fin : ∀ {pins : List (Addr × PySem.Obj)} {s1 : Shared} {σ : L2.St} {H1 : Hp} {F1 : Gh} {ms1 : List Addr} {l1 : Loc} {v : V} {u : Value} {w : W} {vs : List V} {us : List Value} {ws : List W} {Q : VK}, Inv X pins σ H1 s1 → RelV v u → Vals vs us → SRel F1 ms1 l1 H1 → Rp F1 ms1 v w → RpL F1 ms1 vs ws →
      Fin T (fun c d H' => Wx c d σ H') F1 ms1 H1 (smW m w ws l1) (kE Q) → wpAny (model X.prog X.w) X.A (PySem.call (.builtin id) (u :: us)) (EP X pins σ Q) X.xe s1 := by
    intro pins s1 σ H1 F1 ms1 l1 v u w vs us ws Q I r rs S p ps h
    rw [sw] at h
    obtain ⟨wr, e, h1⟩ := Fin.ret h
    cases q : pk l1 w with
    | none => rw [q] at e; cases e
    | some d =>
      cases q2 : pkL l1 ws with
      | none => simp [q, q2] at e
      | some ds =>
        cases q3 : smD m d ds with
        | none => simp [q, q2, q3] at e
        | some d2 =>
          simp [q, q2, q3] at e
          subst e
          exact hm pins s1 σ H1 v vs u us Q I r rs ⟨F1, ms1, l1, d, ds, d2, S, S.pk p q, SRel.pks S ps q2, q3, h1.kd⟩
  refine ⟨fun pins s σ H Q I ⟨F, ms, ρ, l, S, E, h⟩ => ?_⟩
  cases xs with
  | nil =>
    refine wpAny_Call_method0_late (base_id hs) hline (runE ho I S E h fun u s1 v H1 F1 ms1 w l1 I1 r1 t1 S1 E1 p1 h1 => ?_)
    cases q : rcv l1 m w with
    | false => rw [q] at h1; exact h1.elim
    | true =>
      rw [q] at h1
      obtain ⟨z, rfl⟩ := rc q
      cases (show v = V.str (sx z) from p1)
      obtain ⟨k1, k2⟩ := tyV_is (T := "str") I1 r1 rfl
      dsimp only at h1
      rw [hnil rfl ρ l1] at h1
      exact ⟨"str", id, PySem.F.plainAttrs_str, slot, hty, k1, k2, Calls.callWith_builtin rfl (PySem.evalArgs_none (fin (vs := []) (us := []) (ws := []) I1 r1 .nil S1 p1 trivial h1))⟩
  | cons e es =>
    have h' : nst e = true ∧ es.all nst = true := by simpa using hx
    refine wpAny_Call_method_late (base_id hs) (few_ok hx hl) hline rfl (runE ho I S E h fun u s1 v H1 F1 ms1 w l1 I1 r1 t1 S1 E1 p1 h1 => ?_)
    cases q : rcv l1 m w with
    | false => rw [q] at h1; exact h1.elim
    | true =>
      rw [q] at h1
      obtain ⟨z, rfl⟩ := rc q
      cases (show v = V.str (sx z) from p1)
      obtain ⟨k1, k2⟩ := tyV_is (T := "str") I1 r1 rfl
      refine ⟨"str", id, PySem.F.plainAttrs_str, slot, hty, k1, k2, ?_⟩
      have hA := runA (pos := cpos) ha I1 S1 E1 h1 (Q' := fun us s2 => wpAny (model X.prog X.w) X.A (PySem.call (.builtin id) (u :: us)) (EP X pins σ Q) X.xe s2) fun us s2 vs H2 F2 ms2 ws l2 I2 r2 t2 S2 E2 p2 h2 => fin I2 r1 r2 S2 (p1.stp t2) p2 h2
      rw [star_cons h'.1] at hA ⊢
      exact Calls.callWith_builtin (by show (false || (backTo cpos (starEach es X.env)).any (·.1)) = false; rw [star_any h'.2] <;> rfl) (Calls.evalArgs_plain hA)
/-- a method of a list of data -/
theorem lm_pe {m : Sm} {id : String} {o e : Expr} {apos cpos : Pos} {fa : Env → Loc → Res W} {fe : Env → Loc → Res (List W)}
    (hm0 : lstM m = true) (slot : Slot "list" (smName m) id) (hty : typeOf (.builtin id) = pure (.type "method_descriptor")) (hm : MtD X id (smD m)) (hs : nsup o = true) (hline : (apos.endLine == cpos.line) = true) (hx : nst e = true)
    (ho : PE X o (tE T Wx fa)) (ha : PA X [e] (tA T Wx fe)) :
    PE X (.Call (.Attribute o (smName m) apos) [e] [] cpos) (tE T Wx fun ρ l => (fa ρ l).bind fun x l => match rcv l m x with
      | true => (fe ρ l).bind fun ws l => smW m x ws l
      | false => .bad) := by
  have rc : ∀ {st : Loc} {w : W}, rcv st m w = true → ∃ ds, pk st w = some (.lst ds) := by
    intro st w h
    cases m <;> first | exact absurd hm0 Bool.false_ne_true | exact lst_rcv h
  have sw : ∀ (w : W) (ws : List W) (l : Loc), smW m w ws l = ret ((pk l w).bind fun d => (pkL l ws).bind fun ds => (smD m d ds).map .d) l := by
    intro w ws l
    cases m <;> first | exact absurd hm0 Bool.false_ne_true | rfl
  refine ⟨fun pins s σ H Q I ⟨F, ms, ρ, l, S, E, h⟩ => ?_⟩
  refine wpAny_Call_method_late (base_id hs) (few_ok (xs := [e]) (by simp [hx]) rfl) hline rfl (runE ho I S E h fun u s1 v H1 F1 ms1 w l1 I1 r1 t1 S1 E1 p1 h1 => ?_)
  cases q : rcv l1 m w with
  | false => rw [q] at h1; exact h1.elim
  | true =>
    rw [q] at h1
    obtain ⟨ds0, q0⟩ := rc q
    obtain ⟨a, vs0, rfl, hp0, hl0⟩ := S1.pk p1 q0
    obtain ⟨k1, k2⟩ := tyV_is (T := "list") I1 r1 (.inl ⟨rfl, vs0, .inl hp0⟩)
    refine ⟨"list", id, PySem.F.plainAttrs_list, slot, hty, k1, k2, ?_⟩
    have hA := runA (pos := cpos) ha I1 S1 E1 h1 (Q' := fun us s2 => wpAny (model X.prog X.w) X.A (PySem.call (.builtin id) (u :: us)) (EP X pins σ Q) X.xe s2) fun us s2 vs H2 F2 ms2 ws l2 I2 r2 t2 S2 E2 p2 h2 => ?_
    · rw [star_cons hx] at hA ⊢
      exact Calls.callWith_builtin rfl (Calls.evalArgs_plain hA)
    · rw [sw] at h2
      obtain ⟨wr, eg, h3⟩ := Fin.ret h2
      cases z1 : pk (l2) w with
      | none => rw [z1] at eg; cases eg
      | some d =>
        cases z2 : pkL (l2) ws with
        | none => simp [z1, z2] at eg
        | some ds =>
          cases z3 : smD m d ds with
          | none => simp [z1, z2, z3] at eg
          | some d2 =>
            simp [z1, z2, z3] at eg
            subst eg
            exact hm pins s2 σ H2 _ vs u us Q I2 r1 r2 ⟨F2, ms2, l2, d, ds, d2, S2, S2.pk (p1.stp t2) z1, SRel.pks S2 p2 z2, z3, h3.kd⟩
theorem sx_inj0 {a b : Tx} (h : sx a = sx b) : a = b := by
  have := congrArg TL.tl h
  rwa [tl_sx, tl_sx] at this
def litK (kvs : List (Tx × Tx)) : List (L2.Key × V) := kvs.map fun q => (.inr (sx q.1), V.str (sx q.2))
theorem merge_last : ∀ (kvs : List (Tx × Tx)) (acc : List (L2.Key × V)) (z : Tx) (o : Option Tx), valV acc (.inr (sx z)) = o.map (fun t => V.str (sx t)) → valV (mergeK acc (litK kvs)) (.inr (sx z)) = (lastV kvs z o).map fun t => V.str (sx t)
  | [], acc, z, o, h => h
  | (k, v) :: r, acc, z, o, h => by
    show valV (mergeK (L2.putK acc (.inr (sx k)) (V.str (sx v))) (litK r)) (.inr (sx z)) = (lastV r z (if k = z then some v else o)).map _
    refine merge_last r _ z _ ?_
    rw [valV_put]
    by_cases e : k = z
    · subst e
      rw [if_pos rfl, if_pos rfl]
      rfl
    · rw [if_neg (fun e' => e (sx_inj0 (Sum.inr.inj e')).symm), if_neg e]
      exact h
def litT (kvs : List (Tx × Tx)) : List (TE × TE) := kvs.map fun q => (tC (.str (sx q.1)), tC (.str (sx q.2)))
theorem tPairs_lit {σ : L2.St} : ∀ (kvs : List (Tx × Tx)) {H : Hp} {Q : List (V × V) → Hp → Prop}, Q (kvs.map fun q => (V.str (sx q.1), V.str (sx q.2))) H → tPairs (litT kvs) σ H Q
  | [], _, _, h => h
  | q :: r, H, Q, h => tPairs_lit r (Q := fun ps H3 => Q ((V.str (sx q.1), V.str (sx q.2)) :: ps) H3) h
theorem pps_lit {pos : Pos} : ∀ {kvs : List (Tx × Tx)} {ks : List (Option Expr)} {vs : List Expr}, okDl kvs ks vs = true → PPs X pos ks vs (litT kvs) ∧ ks.all (·.isSome) = true ∧ ks.length = kvs.length ∧ vs.length = kvs.length
  | [], [], [], _ => ⟨pps_nil, rfl, rfl, rfl⟩
  | (k, v) :: r, ks0, vs0, h => by
    unfold okDl at h
    split at h
    · rename_i hh
      cases hh
    · rename_i hh
      cases hh
      simp only [Bool.and_eq_true, decide_eq_true_eq] at h
      obtain ⟨⟨h1, h2⟩, h3⟩ := h
      subst h1
      subst h2
      obtain ⟨i1, i2, i3, i4⟩ := pps_lit (pos := pos) h3
      exact ⟨pps_cons pe_str pe_str i1, by simpa using i2, by simp [i3], by simp [i4]⟩
    · cases h
  | [], _ :: _, _, h => by cases h
  | [], [], _ :: _, h => by cases h
theorem dlget_pe {kvs : List (Tx × Tx)} {ks : List (Option Expr)} {vs : List Expr} {e e2 : Expr} {p0 apos cpos : Pos} {fa fb : Env → Loc → Res W} (C : Cxt T k X sc Wx) (hd : okDl kvs ks vs = true) (h0 : kvs ≠ []) (h15 : kvs.length ≤ 15) (hline : (apos.endLine == cpos.line) = true)
    (hn : nst e = true) (hn2 : nst e2 = true) (ha : PE X e (tE T Wx fa)) (hb : PE X e2 (tE T Wx fb)) :
    PE X (.Call (.Attribute (.Dict ks vs p0) "get" apos) [e, e2] [] cpos) (tE T Wx fun ρ l => (fa ρ l).bind fun x l => (fb ρ l).bind fun y l => ret (dlW kvs y x) l) := by
  have hu : X.A.units + 1 < cLine := by have := C.un; omega
  obtain ⟨i1, i2, i3, i4⟩ := pps_lit (X := X) (pos := p0) hd
  have hks : ks ≠ [] := fun z => by
    rw [z] at i3
    exact h0 (List.length_eq_zero_iff.mp i3.symm)
  refine pe_mono (pe_dget2 hu (pe_disp i1 i2 (by rw [i3, i4]) hks (by rw [i3]; exact h15)) ha hb ⟨base_id rfl, few_ok (xs := [e, e2]) (by simp [hn, hn2]) rfl, hline, by rw [star_cons hn, star_cons hn2]; rfl⟩) fun σ H Q ⟨F, ms, ρ, l, S, E, h⟩ => ?_
  intro p hp
  refine tPairs_lit kvs ⟨upd_same, litK kvs, ?_, by simpa [litK] using h15, p, rfl, .inl ⟨_, .inl upd_same⟩, ?_⟩
  · simp [litK, kV]
  rw [upd_upd]
  have t := Stp.lay (o := .dK (mergeK [] (litK kvs))) S hp
  refine ⟨_, ms, ρ, l, S.lay hp, E.stp t, (Fin.bind (h.shift t)).mono fun x l1 F1 ms1 H1 t1 S1 h1 v1 p1 => ?_⟩
  refine ⟨F1, ms1, ρ, l1, S1, (E.stp t).stp t1, (Fin.bind h1).mono fun y l2 F2 ms2 H2 t2 S2 h2 v2 p2 => ?_⟩
  obtain ⟨wr, eg, h4⟩ := Fin.ret h2
  have h5 := Fin.here h4 S2
  cases x with
  | r _ => cases eg
  | d dd =>
    cases dd <;> first | (cases eg; done) | skip
    rename_i z
    cases (show v1 = V.str (sx z) from p1)
    have hF2 : F2 p = some (.dK (mergeK [] (litK kvs))) := t2.sub _ _ (t1.sub _ _ upd_same)
    refine ⟨_, .inl ⟨_, .inr (sx z), S2.le _ _ hF2, rfl, rfl⟩, h5 _ ?_⟩
    rw [merge_last kvs [] z none rfl]
    unfold dlW at eg
    dsimp only at eg
    cases q : lastV kvs z none with
    | none =>
      rw [q] at eg
      cases eg
      exact p2
    | some tt =>
      rw [q] at eg
      cases eg
      rfl
theorem dlget1_pe {kvs : List (Tx × Tx)} {ks : List (Option Expr)} {vs : List Expr} {e : Expr} {p0 apos cpos : Pos} {fa : Env → Loc → Res W} (C : Cxt T k X sc Wx) (hd : okDl kvs ks vs = true) (h0 : kvs ≠ []) (h15 : kvs.length ≤ 15) (hline : (apos.endLine == cpos.line) = true)
    (hn : nst e = true) (ha : PE X e (tE T Wx fa)) :
    PE X (.Call (.Attribute (.Dict ks vs p0) "get" apos) [e] [] cpos) (tE T Wx fun ρ l => (fa ρ l).bind fun x l => ret (dlW kvs (.d .non) x) l) := by
  have hu : X.A.units + 1 < cLine := by have := C.un; omega
  obtain ⟨i1, i2, i3, i4⟩ := pps_lit (X := X) (pos := p0) hd
  have hks : ks ≠ [] := fun z => by
    rw [z] at i3
    exact h0 (List.length_eq_zero_iff.mp i3.symm)
  refine pe_mono (pe_dget1 hu (pe_disp i1 i2 (by rw [i3, i4]) hks (by rw [i3]; exact h15)) ha ⟨base_id rfl, few_ok (xs := [e]) (by simp [hn]) rfl, hline, by rw [star_cons hn]; rfl⟩) fun σ H Q ⟨F, ms, ρ, l, S, E, h⟩ => ?_
  intro p hp
  refine tPairs_lit kvs ⟨upd_same, litK kvs, ?_, by simpa [litK] using h15, p, rfl, .inl ⟨_, .inl upd_same⟩, ?_⟩
  · simp [litK, kV]
  rw [upd_upd]
  have t := Stp.lay (o := .dK (mergeK [] (litK kvs))) S hp
  refine ⟨_, ms, ρ, l, S.lay hp, E.stp t, (Fin.bind (h.shift t)).mono fun x l1 F1 ms1 H1 t1 S1 h1 v1 p1 => ?_⟩
  obtain ⟨wr, eg, h4⟩ := Fin.ret h1
  have h5 := Fin.here h4 S1
  cases x with
  | r _ => cases eg
  | d dd =>
    cases dd <;> first | (cases eg; done) | skip
    rename_i z
    cases (show v1 = V.str (sx z) from p1)
    have hF2 : F1 p = some (.dK (mergeK [] (litK kvs))) := t1.sub _ _ upd_same
    refine ⟨_, .inl ⟨_, .inr (sx z), S1.le _ _ hF2, rfl, rfl⟩, h5 _ ?_⟩
    rw [merge_last kvs [] z none rfl]
    unfold dlW at eg
    dsimp only at eg
    cases q : lastV kvs z none with
    | none =>
      rw [q] at eg
      cases eg
      rfl
    | some tt =>
      rw [q] at eg
      cases eg
      rfl
/-! dicts of the module -/
theorem tget_pe {x : Str} {kvs : List (Tx × D)} {e : Expr} {p apos cpos : Pos} {fa : Env → Loc → Res W} (C : Cxt T k X sc Wx) (hg : okG sc x = true) (ht : T.tb x = some kvs) (hline : (apos.endLine == cpos.line) = true) (hn : nst e = true)
    (ha : PE X e (tE T Wx fa)) : PE X (.Call (.Attribute (.Name x p) "get" apos) [e] [] cpos) (tE T Wx fun ρ l => (fa ρ l).bind fun w l => ret (tgetW kvs (.d .non) w) l) := by
  obtain ⟨g1, g2⟩ := gl_of C.sc hg
  obtain ⟨d, es, n, hm, D0, hv⟩ := C.facts.tabs x kvs ht
  refine ⟨fun pins s σ H Q I ⟨F, ms, ρ, l, S, E, h⟩ => ?_⟩
  refine wpAny_Call_method (base_id rfl) (few_ok (xs := [e]) (by simp [hn]) rfl) hline PySem.F.plainAttrs_dict PySem.F.slot_dict_get PySem.F.type_dict_get (thn ((pe_glob g1 hm (v := .ref d) rfl g2).run pins s σ H (fun v H1 => v = .ref d ∧ H1 = H) I ⟨rfl, rfl⟩) fun u s1 ⟨v, H1, I1, rv, ev, eH⟩ => ?_)
  subst ev
  subst eH
  cases rv
  refine ⟨kd_type D0 I1, fun b eb => ?_, ?_⟩
  · cases eb
    exact ⟨_, I1.kIn _ _ D0.at_, rfl⟩
  have htr : backTo cpos (starEach [e] X.env) = [(false, eval e X.env)] := by rw [star_cons hn]; rfl
  rw [htr]
  refine Calls.callWith_builtin rfl (Calls.evalArgs_plain (Calls.spliced_cons (runE ha I1 S E h fun u2 s2 v2 H2 F2 ms2 w2 l2 I2 r2 t2 S2 E2 p2 h2 => Calls.spliced_nil ?_)))
  obtain ⟨wr, eg, h4⟩ := Fin.ret h2
  have h5 := Fin.here h4 S2
  cases w2 with
  | r _ => cases eg
  | d dd =>
    cases dd <;> first | (cases eg; done) | skip
    rename_i z
    cases (show v2 = V.str (sx z) from p2)
    obtain ⟨tk, rfl⟩ := r2
    refine call_meetsIn PySem.F.slot_dict_get (kd_type D0 I2) PySem.F.entry_dict_get (PySem.F.args_dict_get_2 _ _) (PySem.meets_dict_get (PySem.strKind X.prog X.w) d (PySem.strKind_is X.prog X.w (sx z) tk) D0.low) ⟨_, PySem.W.mapOf_K (prog := X.prog) I2.kIn D0.at_ D0.lit, ?_⟩
    have hz := hv z
    unfold tgetW at eg
    dsimp only at eg
    cases q : tabV kvs z with
    | none =>
      rw [q] at hz eg
      cases eg
      rw [PySem.W.find_K D0.at_ hz]
      exact ⟨.non, H2, I2.tok _, rfl, h5 _ rfl⟩
    | some dv =>
      rw [q] at hz eg
      cases eg
      obtain ⟨u3, v3, hz, rv3, hr⟩ := hz
      rw [PySem.W.find_K D0.at_ hz]
      exact ⟨v3, H2, I2.tok _, rv3, h5 _ (hr sp F2)⟩
theorem tget2_pe {x : Str} {kvs : List (Tx × D)} {e e2 : Expr} {p apos cpos : Pos} {fa fb : Env → Loc → Res W} (C : Cxt T k X sc Wx) (hg : okG sc x = true) (ht : T.tb x = some kvs) (hline : (apos.endLine == cpos.line) = true) (hn : nst e = true) (hn2 : nst e2 = true)
    (ha : PE X e (tE T Wx fa)) (hb : PE X e2 (tE T Wx fb)) : PE X (.Call (.Attribute (.Name x p) "get" apos) [e, e2] [] cpos) (tE T Wx fun ρ l => (fa ρ l).bind fun w l => (fb ρ l).bind fun y l => ret (tgetW kvs y w) l) := by
  obtain ⟨g1, g2⟩ := gl_of C.sc hg
  obtain ⟨d, es, n, hm, D0, hv⟩ := C.facts.tabs x kvs ht
  refine ⟨fun pins s σ H Q I ⟨F, ms, ρ, l, S, E, h⟩ => ?_⟩
  refine wpAny_Call_method (base_id rfl) (few_ok (xs := [e, e2]) (by simp [hn, hn2]) rfl) hline PySem.F.plainAttrs_dict PySem.F.slot_dict_get PySem.F.type_dict_get (thn ((pe_glob g1 hm (v := .ref d) rfl g2).run pins s σ H (fun v H1 => v = .ref d ∧ H1 = H) I ⟨rfl, rfl⟩) fun u s1 ⟨v, H1, I1, rv, ev, eH⟩ => ?_)
  subst ev
  subst eH
  cases rv
  refine ⟨kd_type D0 I1, fun b eb => ?_, ?_⟩
  · cases eb
    exact ⟨_, I1.kIn _ _ D0.at_, rfl⟩
  have htr : backTo cpos (starEach [e, e2] X.env) = [(false, eval e X.env), (false, eval e2 X.env)] := by rw [star_cons hn, star_cons hn2]; rfl
  rw [htr]
  refine Calls.callWith_builtin rfl (Calls.evalArgs_plain (Calls.spliced_cons (runE ha I1 S E h fun u2 s2 v2 H2 F2 ms2 w2 l2 I2 r2 t2 S2 E2 p2 h2 => Calls.spliced_cons (runE hb I2 S2 E2 h2 fun u3 s3 v3 H3 F3 ms3 w3 l3 I3 r3 t3 S3 E3 p3 h3 => Calls.spliced_nil ?_))))
  obtain ⟨wr, eg, h4⟩ := Fin.ret h3
  have h5 := Fin.here h4 S3
  cases w2 with
  | r _ => cases eg
  | d dd =>
    cases dd <;> first | (cases eg; done) | skip
    rename_i z
    cases (show v2 = V.str (sx z) from p2)
    obtain ⟨tk, rfl⟩ := r2
    have hz := hv z
    unfold tgetW at eg
    dsimp only at eg
    refine call_meetsIn PySem.F.slot_dict_get (kd_type D0 I3) PySem.F.entry_dict_get (PySem.F.args_dict_get_3 _ _ _) (PySem.meets_dict_get_default (PySem.strKind X.prog X.w) d (PySem.strKind_is X.prog X.w (sx z) tk) D0.low u3) ⟨_, PySem.W.mapOf_K (prog := X.prog) I3.kIn D0.at_ D0.lit, ?_⟩
    cases q : tabV kvs z with
    | none =>
      rw [q] at hz eg
      cases eg
      rw [PySem.W.find_K D0.at_ hz]
      exact ⟨v3, H3, I3.tok _, r3, h5 _ p3⟩
    | some dv =>
      rw [q] at hz eg
      cases eg
      obtain ⟨u4, v4, hz, rv4, hr⟩ := hz
      rw [PySem.W.find_K D0.at_ hz]
      exact ⟨v4, H3, I3.tok _, rv4, h5 _ (hr sp F3)⟩
theorem tix_pe {x : Str} {kvs : List (Tx × D)} {e : Expr} {p pos : Pos} {fa : Env → Loc → Res W} (C : Cxt T k X sc Wx) (hg : okG sc x = true) (ht : T.tb x = some kvs) (hn : nsl e = true)
    (ha : PE X e (tE T Wx fa)) : PE X (.Subscript (.Name x p) e pos) (tE T Wx fun ρ l => (fa ρ l).bind fun w l => ret (tixW kvs w) l) := by
  obtain ⟨g1, g2⟩ := gl_of C.sc hg
  obtain ⟨d, es, n, hm, D0, hv⟩ := C.facts.tabs x kvs ht
  refine ⟨fun pins s σ H Q I ⟨F, ms, ρ, l, S, E, h⟩ => ?_⟩
  refine Subscript_ (thn ((pe_glob g1 hm (v := .ref d) rfl g2).run pins s σ H (fun v H1 => v = .ref d ∧ H1 = H) I ⟨rfl, rfl⟩) fun u s1 ⟨v, H1, I1, rv, ev, eH⟩ => ?_)
  subst ev
  subst eH
  refine runE ha I1 S E h fun u2 s2 v2 H2 F2 ms2 w2 l2 I2 r2 t2 S2 E2 p2 h2 => ?_
  obtain ⟨wr, eg, h4⟩ := Fin.ret h2
  have h5 := Fin.here h4 S2
  cases w2 with
  | r _ => cases eg
  | d dd =>
    cases dd <;> first | (cases eg; done) | skip
    rename_i z
    cases (show v2 = V.str (sx z) from p2)
    have hz := hv z
    have eg' : (tabV kvs z).map W.d = some wr := eg
    cases q : tabV kvs z with
    | none => rw [q] at eg'; cases eg'
    | some dv =>
      rw [q] at hz eg'
      cases eg'
      obtain ⟨u4, v4, hz, rv4, hr⟩ := hz
      exact ix_kdict _ _ pins s2 σ H2 _ _ _ _ Q I2 rv r2 ⟨d, sx z, v4, rfl, rfl, ⟨es, n, u4, D0.at_, D0.lit, hz, rv4⟩, h5 _ (hr sp F2)⟩ (plain_ix hn _ _)
/-- a method of a dict of the store -/
theorem dm_pe {m : Sm} {id : String} {o : Expr} {e : Expr} {es : List Expr} {apos cpos : Pos} {fa : Env → Loc → Res W} {fe : Env → Loc → Res (List W)} (C : Cxt T k X sc Wx) (slot : Slot "dict" (smName m) id) (hty : typeOf (.builtin id) = pure (.type "method_descriptor")) (hs : nsup o = true) (hline : (apos.endLine == cpos.line) = true) (hx : (e :: es).all nst = true) (hl : Nat.blt (e :: es).length 29 = true)
    (hm : ∀ {st : Loc} {w : W}, rcv st m w = true → ∃ n ver ks, w = .r n ∧ st[n]? = some (.dct ver ks))
    (hc : ∀ {s2 : Shared} {H2 : Hp} {F2 : Gh} {ms2 : List Addr} {l2 : Loc} {n : Nat} {a : Addr} {us : List Value} {vs : List V} {ws : List W} {Q : VK}, Inv X pins σ H2 s2 → SRel F2 ms2 l2 H2 → ms2[n]? = some a → Vals vs us → RpL F2 ms2 vs ws → Fin T (fun c d H' => Wx c d σ H') F2 ms2 H2 (smW m (.r n) ws l2) (kE Q) → wpAny (model X.prog X.w) X.A (PySem.call (.builtin id) (.ref a :: us)) (EP X pins σ Q) X.xe s2)
    (ho : PE X o (tE T Wx fa)) (ha : PA X (e :: es) (tA T Wx fe)) {Q : VK} (I : Inv X pins σ H s)
    (h : tE T Wx (fun ρ l => (fa ρ l).bind fun x l => match rcv l m x with
      | true => (fe ρ l).bind fun ws l => smW m x ws l
      | false => .bad) σ H Q) : wpAny (model X.prog X.w) X.A (eval (.Call (.Attribute o (smName m) apos) (e :: es) [] cpos) X.env) (EP X pins σ Q) X.xe s := by
  obtain ⟨F, ms, ρ, l, S, E, h⟩ := h
  have h' : nst e = true ∧ es.all nst = true := by simpa using hx
  refine wpAny_Call_method_late (base_id hs) (few_ok hx hl) hline rfl (runE ho I S E h fun u s1 v H1 F1 ms1 w l1 I1 r1 t1 S1 E1 p1 h1 => ?_)
  cases q : rcv l1 m w with
  | false => rw [q] at h1; exact h1.elim
  | true =>
    rw [q] at h1
    obtain ⟨n, ver, ks, rfl, q0⟩ := hm q
    obtain ⟨a, ea, rfl⟩ := p1
    obtain ⟨o0, D0⟩ := dc_at C.pw I1 S1 ea q0
    cases r1
    obtain ⟨k1, k2⟩ := D0.typ
    refine ⟨"dict", id, PySem.F.plainAttrs_dict, slot, hty, k1, k2, ?_⟩
    have hA := runA (pos := cpos) ha I1 S1 E1 h1 (Q' := fun us s2 => wpAny (model X.prog X.w) X.A (PySem.call (.builtin id) (.ref a :: us)) (EP X pins σ Q) X.xe s2) fun us s2 vs H2 F2 ms2 ws l2 I2 r2 t2 S2 E2 p2 h2 => hc I2 S2 (pre_get t2.pre ea) r2 p2 h2
    rw [star_cons h'.1] at hA ⊢
    exact Calls.callWith_builtin (by show (false || (backTo cpos (starEach es X.env)).any (·.1)) = false; rw [star_any h'.2] <;> rfl) (Calls.evalArgs_plain hA)
theorem rcv_dct {m : Sm} (h0 : m = .get ∨ m = .update) {st : Loc} {w : W} (h : rcv st m w = true) : ∃ n ver ks, w = .r n ∧ st[n]? = some (.dct ver ks) := by
  cases w with
  | d x => rcases h0 with rfl | rfl <;> cases h
  | r n =>
    cases q : st[n]? with
    | none => rcases h0 with rfl | rfl <;> simp [rcv, q] at h
    | some ob =>
      cases ob with
      | dct ver ks => exact ⟨n, ver, ks, rfl, q⟩
      | lst _ => rcases h0 with rfl | rfl <;> simp [rcv, q] at h
      | tup _ => rcases h0 with rfl | rfl <;> simp [rcv, q] at h
      | ins _ _ => rcases h0 with rfl | rfl <;> simp [rcv, q] at h
      | dead => rcases h0 with rfl | rfl <;> simp [rcv, q] at h
theorem get_pe {o : Expr} {e : Expr} {es : List Expr} {apos cpos : Pos} {fa : Env → Loc → Res W} {fe : Env → Loc → Res (List W)} (C : Cxt T k X sc Wx) (hs : nsup o = true) (hline : (apos.endLine == cpos.line) = true) (hx : (e :: es).all nst = true) (hl : Nat.blt (e :: es).length 29 = true)
    (ho : PE X o (tE T Wx fa)) (ha : PA X (e :: es) (tA T Wx fe)) :
    PE X (.Call (.Attribute o "get" apos) (e :: es) [] cpos) (tE T Wx fun ρ l => (fa ρ l).bind fun x l => match rcv l .get x with
      | true => (fe ρ l).bind fun ws l => smW .get x ws l
      | false => .bad) := by
  refine ⟨fun pins s σ H Q I h => dm_pe (m := .get) C PySem.F.slot_dict_get PySem.F.type_dict_get hs hline hx hl (rcv_dct (.inl rfl)) (fun {s2 H2 F2 ms2 l2 n a us vs ws Q} I2 S2 ea r2 p2 h2 => ?_) ho ha I h⟩
  have hu : X.A.units + 1 < cLine := by have := C.un; omega
  have h3 : Fin T (fun c d H' => Wx c d σ H') F2 ms2 H2 (ret (getW l2 (.r n) ws) l2) (kE Q) := h2
  obtain ⟨wr, eg, h4⟩ := Fin.ret h3
  have h5 := Fin.here h4 S2
  unfold getW at eg
  dsimp only at eg
  cases q3 : l2[n]? with
  | none => rw [q3] at eg; cases eg
  | some ob2 =>
    rw [q3] at eg
    cases ob2 with
    | lst _ => cases eg
    | tup _ => cases eg
    | ins _ _ => cases eg
    | dead => cases eg
    | dct ver ks =>
      obtain ⟨o2, D2⟩ := dc_at C.pw I2 S2 ea q3
      dsimp only at eg
      match ws, vs, us, r2, p2, eg with
      | [.d kk], [y], _, .cons ry .nil, p2, eg =>
        dsimp only at eg
        split at eg
        · rename_i hk
          cases eg
          exact dx_get1 hu I2 S2 D2 hk p2.1 ry fun w' v s3 I3 rw' pw => ⟨v, H2, I3, rw', h5 _ pw⟩
        · cases eg
      | [.d kk, w2], [y, z2], _, .cons ry (.cons rz .nil), p2, eg =>
        dsimp only at eg
        split at eg
        · rename_i hk
          cases eg
          exact dx_get2 hu I2 S2 D2 hk p2.1 ry rz p2.2.1 fun w' v s3 I3 rw' pw => ⟨v, H2, I3, rw', h5 _ pw⟩
        · cases eg
      | [], _, _, _, _, eg => cases eg
      | [.r _], _, _, _, _, eg => cases eg
      | [.r _, _], _, _, _, _, eg => cases eg
      | .d _ :: _ :: _ :: _, _, _, _, _, eg => cases eg
      | .r _ :: _ :: _ :: _, _, _, _, _, eg => cases eg
      | [.d _], [], _, _, p2, _ => exact p2.elim
      | [.d _], _ :: _ :: _, _, _, p2, _ => exact p2.2.elim
      | [.d _, _], [], _, _, p2, _ => exact p2.elim
      | [.d _, _], [_], _, _, p2, _ => exact p2.2.elim
      | [.d _, _], _ :: _ :: _ :: _, _, _, p2, _ => exact p2.2.2.elim
/-- len of an object of the store -/
theorem len_pe {x : Str} {e : Expr} {fa : Env → Loc → Res W} {p pos : Pos} (C : Cxt T k X sc Wx) (hg : okG sc x = true) (hx : x = "len") (hn : nst e = true) (ha : PE X e (tE T Wx fa)) :
    PE X (.Call (.Name x p) [e] [] pos) (tE T Wx fun ρ l => (fa ρ l).bind fun x l => ret ((lenW l x).map fun n => .d (.int (n : Int))) l) := by
  obtain ⟨g1, g2⟩ := gl_of C.sc hg
  subst hx
  have key : CallR X (.builtin "len") (fun xs H Q => ∃ (v : V) (F : Gh) (ms : List Addr) (l : Loc) (w wr : W), xs = [v] ∧ SRel F ms l H ∧ Rp F ms v w ∧ (lenW l w).map (fun n => W.d (.int (n : Int))) = some wr ∧ Kw F ms l H Q wr) := by
    intro pins s σ H xs us Q I r ⟨v, F, ms, l, w, wr, ex, S, p, e, k⟩
    subst ex
    unfold lenW at e
    cases w with
    | d _ => cases e
    | r n =>
      obtain ⟨a, ea, rfl⟩ := p
      dsimp only at e
      cases q : l[n]? with
      | none => rw [q] at e; cases e
      | some ob =>
        rw [q] at e
        cases ob with
        | lst ws =>
          cases e
          obtain ⟨_, vs, hH, hl⟩ := S.at_ n a _ ea q
          exact call_len_seq pins s σ H _ us Q I r ⟨a, vs, rfl, .inl (.inl (.inl hH)), by rw [hl.len]; exact k F H _ Stp.refl S rfl⟩
        | dct _ _ => cases e
        | tup _ => cases e
        | ins _ _ => cases e
        | dead => cases e
  refine pe_mono (pe_callB key g1 (C.facts.fr _ (by simp)) (by decide +kernel) (pa_cons ha pa_nil (star_cons hn)) (by decide +kernel) (by decide +kernel) (star_cons hn)) fun σ H Q ⟨F, ms, ρ, l, S, E, h⟩ => ⟨F, ms, ρ, l, S, E, (Fin.bind h).mono fun w l1 F1 ms1 H1 t1 S1 z1 v p => ?_⟩
  obtain ⟨wr, e, h1⟩ := Fin.ret z1
  exact ⟨v, F1, ms1, l1, w, wr, rfl, S1, p, e, h1.kw⟩
theorem app_pe {o : Expr} {e : Expr} {apos cpos : Pos} {fa : Env → Loc → Res W} {fe : Env → Loc → Res (List W)} (hs : nsup o = true) (hline : (apos.endLine == cpos.line) = true) (hx : nst e = true)
    (ho : PE X o (tE T Wx fa)) (ha : PA X [e] (tA T Wx fe)) :
    PE X (.Call (.Attribute o "append" apos) [e] [] cpos) (tE T Wx fun ρ l => (fa ρ l).bind fun x l => match rcv l .append x with
      | true => (fe ρ l).bind fun ws l => smW .append x ws l
      | false => .bad) := by
  refine ⟨fun pins s σ H Q I ⟨F, ms, ρ, l, S, E, h⟩ => ?_⟩
  refine wpAny_Call_method_late (base_id hs) (few_ok (xs := [e]) (by simp [hx]) rfl) hline rfl (runE ho I S E h fun u s1 v H1 F1 ms1 w l1 I1 r1 t1 S1 E1 p1 h1 => ?_)
  cases w with
  | d x => exact h1.elim
  | r n =>
    obtain ⟨a, ea, rfl⟩ := p1
    cases q : l1[n]? with
    | none => first | (simp [rcv, q] at h1; done) | (simp [rcv, q] at h1; exact h1.elim)
    | some ob =>
      cases ob with
      | dct _ _ => first | (simp [rcv, q] at h1; done) | (simp [rcv, q] at h1; exact h1.elim)
      | tup _ => first | (simp [rcv, q] at h1; done) | (simp [rcv, q] at h1; exact h1.elim)
      | ins _ _ => first | (simp [rcv, q] at h1; done) | (simp [rcv, q] at h1; exact h1.elim)
      | dead => first | (simp [rcv, q] at h1; done) | (simp [rcv, q] at h1; exact h1.elim)
      | lst ws0 =>
        simp only [rcv, q] at h1
        obtain ⟨_, vs0, hH0, _⟩ := S1.at_ n a _ ea q
        obtain ⟨k1, k2⟩ := tyV_is (T := "list") I1 r1 (.inl ⟨rfl, vs0, .inl (.inl hH0)⟩)
        refine ⟨"list", _, PySem.F.plainAttrs_list, PySem.F.slot_list_append, PySem.F.type_list_append, k1, k2, ?_⟩
        have hA := runA (pos := cpos) ha I1 S1 E1 h1 (Q' := fun us s2 => wpAny (model X.prog X.w) X.A (PySem.call (.builtin "list.append") (u :: us)) (EP X pins σ Q) X.xe s2) fun us s2 vs H2 F2 ms2 ws l2 I2 r2 t2 S2 E2 p2 h2 => ?_
        · rw [star_cons hx] at hA ⊢
          exact Calls.callWith_builtin rfl (Calls.evalArgs_plain hA)
        · cases ws with
          | nil => exact h2.elim
          | cons w2 wr =>
            cases wr with
            | cons _ _ => exact h2.elim
            | nil =>
              cases vs with
              | nil => exact p2.elim
              | cons v2 vr =>
                cases vr with
                | cons _ _ => exact p2.2.elim
                | nil =>
                  have h3 : Fin T (fun c d H' => Wx c d σ H') F2 ms2 H2 ((ret (appW l2 n w2) l2).bind fun l _ => .ok (.d .non) l) (kE Q) := h2
                  cases q2 : appW l2 n w2 with
                  | none => rw [q2] at h3; exact h3.elim
                  | some l3 =>
                    rw [q2] at h3
                    have h4 : Fin T (fun c d H' => Wx c d σ H') F2 ms2 H2 (.ok (.d .non) l3) (kE Q) := h3
                    unfold appW at q2
                    cases q3 : (l2)[n]? with
                    | none => first | (simp [q3] at q2; done) | (simp [q3] at q2; exact q2.elim)
                    | some ob2 =>
                      cases ob2 with
                      | dct _ _ => first | (simp [q3] at q2; done) | (simp [q3] at q2; exact q2.elim)
                      | tup _ => first | (simp [q3] at q2; done) | (simp [q3] at q2; exact q2.elim)
                      | ins _ _ => first | (simp [q3] at q2; done) | (simp [q3] at q2; exact q2.elim)
                      | dead => first | (simp [q3] at q2; done) | (simp [q3] at q2; exact q2.elim)
                      | lst ws2 =>
                        simp only [q3] at q2
                        split at q2
                        · rename_i hz
                          cases q2
                          have ea2 := pre_get t2.pre ea
                          obtain ⟨hF2, vs2, hH2, hl2⟩ := S2.at_ n a _ ea2 q3
                          refine mt_append pins s2 σ H2 _ _ u us Q I2 r1 r2 ⟨a, vs2, v2, rfl, rfl, hH2, by rw [hl2.len, line_eq]; exact hz, ?_⟩
                          refine h4 F2 ms2 _ (Stp.write (List.mem_of_getElem? ea2)) ?_ _ rfl
                          exact S2.write ea2 hF2 hH2 ⟨hF2, _, upd_same, hl2.append ⟨p2.1, trivial⟩⟩
                        · cases q2
/-! instances -/
theorem Stp.fresh {F : Gh} {H : Hp} {ms : List Addr} {p : Addr} {u : HO} (hp : H p = none) : Stp F ms H F ms (upd H p u) where
  sub := fun _ _ h => h
  pre := List.prefix_refl _
  keep := fun a v h _ _ => by rw [upd_ne (ne_of_none h hp)]; exact h
  new := fun a h n => absurd h n
  newF := fun _ _ h => .inl h
  obs := fun _ _ _ h => h
theorem run_mk {c g : Nat} {x : Str} (C : Cxt T k X sc Wx) (hh : T.hot = false) (hi : T.pt.ini c = some g) (hc : T.kn[c]? = some x) {us : List Value} {vs : List V} {ws : List W} {Q : VK} (I : Inv X pins σ H s) (r : Vals vs us) (S : SRel F ms l H) (p : RpL F ms vs ws)
    (h : Fin T (fun c d H' => Wx c d σ H') F ms H ((Vx.call T.pt k g (.r l.length :: ws) (l ++ [.ins c []])).bind fun v l' => match v with
      | .d .non => .ok (.r l.length) l'
      | _ => .bad) (kE Q)) : wpAny (model X.prog X.w) X.A (PySem.call (.ref (Tbs.cl c)) us) (EP X pins σ Q) X.xe s := by
  obtain ⟨hm, M, o, hg⟩ := C.facts.mkr c g x hi hc
  have F0 := C.facts.fn hh g o hg
  obtain ⟨ds, hds, hb⟩ := (C.facts.kp g o hg).2 0 (Nat.zero_le _)
  cases hds
  have n1 := I.hok.fresh (Nat.le_refl s.heap.objs.size)
  have n2 := I.hok.fresh (Nat.le_succ s.heap.objs.size)
  have ne : s.heap.objs.size + 1 ≠ s.heap.objs.size := Nat.succ_ne_self _
  have n3 : upd H s.heap.objs.size (.own (s.heap.objs.size + 1)) (s.heap.objs.size + 1) = none := by rw [upd_ne ne]; exact n2
  have S1 := S.side (u := .own (s.heap.objs.size + 1)) (S.notF n1) (S.nm n1) (tabs_lay S.tabs n1)
  have S2 : SRel F (ms ++ [s.heap.objs.size + 1]) (l ++ [.ins c []]) _ := S1.make (u := .ins (Tbs.cl c) s.heap.objs.size []) (o := .ins c []) n3 ⟨S1.notF n3, s.heap.objs.size, [], by rw [upd_same, List.zip_nil_right], Nat.zero_le _, trivial⟩
  have t2 : Stp F ms H F (ms ++ [s.heap.objs.size + 1]) (upd (upd H s.heap.objs.size (.own (s.heap.objs.size + 1))) (s.heap.objs.size + 1) (.ins (Tbs.cl c) s.heap.objs.size [])) := (Stp.fresh n1).trans (Stp.make n3)
  have p2 : RpL F (ms ++ [s.heap.objs.size + 1]) (.ref (s.heap.objs.size + 1) :: vs) (.r l.length :: ws) := ⟨⟨_, last_at S, rfl⟩, p.stp t2⟩
  have key : spF T k g (.ref (s.heap.objs.size + 1) :: vs) (upd (upd H s.heap.objs.size (.own (s.heap.objs.size + 1))) (s.heap.objs.size + 1) (.ins (Tbs.cl c) s.heap.objs.size [])) (fun v H3 => v = .non ∧ Q (.ref (s.heap.objs.size + 1)) H3) (fun c d H' => Wx c d σ H') := by
    refine spF_fn (ro := false) C.facts.np S2 p2 ((Fin.bind (h.shift t2)).mono fun w l3 F3 ms3 H3 t3 S3 z v3 pv => ?_)
    cases w with
    | r _ => exact z.elim
    | d d =>
      cases d <;> first | exact z.elim | skip
      exact ⟨pv, Fin.here z S3 _ ⟨_, pre_get t3.pre (last_at S), rfl⟩⟩
  have I2 := Inv.made (C := Tbs.cl c) I
  have r2 : Vals (V.ref (s.heap.objs.size + 1) :: vs) (Value.ref (s.heap.objs.size + 1) :: us) := .cons rfl r
  have hl : (Value.ref (s.heap.objs.size + 1) :: us ++ []).length = (T.ps g).length := by
    rw [List.append_nil, ← r2.length]
    exact F0.len (V.ref (s.heap.objs.size + 1) :: vs) _ _ _ key
  have hr : Room (4 * k + 1 + 1) X.A := (C.room hh).mono (Nat.le_refl _)
  have hB := hb _ (Value.ref (s.heap.objs.size + 1) :: us) I2.kIn hl
  rw [List.append_nil] at hB
  refine wpAny_call (L2.make_map (f := T.fa g) I.kIn M.makes M.init (beq_iff_eq.mp M.fn) (codeAny_mono (F0.run _ X.stack _ _ ⟨Value.ref (s.heap.objs.size + 1) :: us, []⟩ _ _ _ _ (hr.make _ us []) (I2.env0.make _ us []) hB r2 key) fun rr s' hq => ?_))
  cases rr with
  | error e => exact passAt (C.tk hh) σ pins _ _ e s' I2 hq
  | ok fl =>
    cases fl with
    | ret u =>
      obtain ⟨v, H', I3, rv, ev, q3⟩ := I2.after hq
      subst ev
      exact ⟨rv, ⟨V.ref (s.heap.objs.size + 1), H', I3, rfl, q3⟩⟩
    | next => exact False.elim hq
    | brk => exact False.elim hq
    | cont => exact False.elim hq
theorem make_pe {c g : Nat} {x : Str} {xs : List Expr} {p pos : Pos} {fe : Env → Loc → Res (List W)} (C : Cxt T k X sc Wx) (hh : T.hot = false) (hg : okG sc x = true) (hc : T.kn[c]? = some x) (hi : T.pt.ini c = some g) (hx : xs.all nst = true)
    (ha : PA X xs (tA T Wx fe)) (hnil : xs = [] → ∀ ρ l, fe ρ l = .ok [] l) : PE X (.Call (.Name x p) xs [] pos) (tE T Wx fun ρ l => (fe ρ l).bind fun ws l => match T.pt.ini c with
      | some g => (Vx.call T.pt k g (.r l.length :: ws) (l ++ [.ins c []])).bind fun v l' => match v with
        | .d .non => .ok (.r l.length) l'
        | _ => .bad
      | none => .bad) := by
  obtain ⟨g1, g2⟩ := gl_of C.sc hg
  refine ⟨fun pins s σ H Q I ⟨F, ms, ρ, l, S, E, h⟩ => ?_⟩
  rw [hi] at h
  obtain ⟨hm, M, o, hgo⟩ := C.facts.mkr c g x hi hc
  refine wpAny_Call_Name_kw (ld_glob I g1 hm ?_ g2)
  cases xs with
  | nil =>
    dsimp only at h
    rw [hnil rfl ρ l] at h
    exact PySem.W.callWith_K0 I.kIn M.kp (run_mk C hh hi hc (us := []) (vs := []) (ws := []) I .nil S trivial h)
  | cons e es =>
    have h' : nst e = true ∧ es.all nst = true := by simpa using hx
    refine PySem.W.callWith_K (h₀ := X.base) I.ok.mod.kin M.kp (runA ha I S E h fun us s1 vs H1 F1 ms1 ws l1 I1 r1 t1 S1 E1 p1 h1 => ⟨I1.kIn, ?_⟩) (star_cons h'.1) (star_any h'.2)
    exact run_mk C hh hi hc I1 r1 S1 p1 h1
/-- list(e), a new object -/
theorem max_pe {x : Str} {e e2 : Expr} {fa fb : Env → Loc → Res W} {p pos : Pos} (C : Cxt T k X sc Wx) (hh : T.hot = false) (hg : okG sc x = true) (hx : x = "max") (hn : nst e = true) (hn2 : nst e2 = true) (ha : PE X e (tE T Wx fa)) (hb : PE X e2 (tE T Wx fb)) :
    PE X (.Call (.Name x p) [e, e2] [] pos) (tE T Wx fun ρ l => (fa ρ l).bind fun x l => (fb ρ l).bind fun y l => match x, y with
      | .d (.int i), .d (.int j) => .ok (.d (.int (if j > i then j else i))) l
      | _, _ => .bad) := by
  obtain ⟨g1, g2⟩ := gl_of C.sc hg
  subst hx
  have hA : PA X [e, e2] (tCons (tE T Wx fa) (tCons (tE T Wx fb) tNil)) := pa_cons ha (pa_cons hb pa_nil (star_cons hn2)) (star_cons hn)
  refine pe_mono (pe_callB (call_max2 (C.calm hh)) g1 (C.facts.fr _ (by simp)) (by decide +kernel) hA (by decide +kernel) (by decide +kernel) (star_cons hn) (by rw [star_cons hn2]; rfl)) fun σ H Q ⟨F, ms, ρ, l, S, E, h⟩ => ⟨F, ms, ρ, l, S, E, (Fin.bind h).mono fun w l1 F1 ms1 H1 t1 S1 z v p => ?_⟩
  refine ⟨F1, ms1, ρ, l1, S1, E.stp t1, (Fin.bind z).mono fun w2 l2 F2 ms2 H2 t2 S2 z2 v2 p2 => ?_⟩
  cases w with
  | r _ => exact z2.elim
  | d a =>
    cases w2 with
    | r _ => cases a <;> exact z2.elim
    | d b =>
      cases a <;> first | (exact z2.elim) | skip
      cases b <;> first | (exact z2.elim) | skip
      rename_i i j
      cases (show v = V.int i from p)
      cases (show v2 = V.int j from p2)
      exact ⟨i, j, rfl, Fin.here z2 S2 _ rfl⟩
theorem thw_pe {x : Str} {e : Expr} {fa : Env → Loc → Res W} {p pos : Pos} (C : Cxt T k X sc Wx) (hg : okG sc x = true) (hx : x = "list") (hn : nst e = true) (ha : PE X e (tE T Wx fa)) :
    PE X (.Call (.Name x p) [e] [] pos) (tE T Wx fun ρ l => (fa ρ l).bind fun x l => match thwW l x with
      | some ws => mkLst true ws l
      | none => .bad) := by
  obtain ⟨g1, g2⟩ := gl_of C.sc hg
  subst hx
  refine pe_mono (pe_callTy call_list_of g1 (C.facts.fr _ (by simp)) (by decide +kernel) (pa_cons ha pa_nil (star_cons hn)) (by decide +kernel) (by decide +kernel) (star_cons hn)) fun σ H Q ⟨F, ms, ρ, l, S, E, h⟩ => ⟨F, ms, ρ, l, S, E, (Fin.bind h).mono fun w l1 F1 ms1 H1 t1 S1 z v pv => ?_⟩
  cases q : thwW l1 w with
  | none => rw [q] at z; exact z.elim
  | some ws =>
    rw [q] at z
    have fin : ∀ {vs : List V}, RpL F1 ms1 vs ws → ∀ r, H1 r = none → Q (.ref r) (upd H1 r (.lst vs)) := fun pr => (mk_lst S1 pr z).2
    unfold thwW at q
    split at q
    · rename_i ds
      cases q
      obtain ⟨a, vs, rfl, ha, R⟩ := (show Rep F1 v (.lst ds) from pv)
      exact ⟨a, vs, rfl, .inl (.inl (S1.le _ _ ha)), fin (RpL.of R)⟩
    · rename_i ds
      cases q
      obtain ⟨a, vs, rfl, ha, R⟩ := (show Rep F1 v (.tup ds) from pv)
      exact ⟨a, vs, rfl, .inr (.inl (S1.le _ _ ha)), fin (RpL.of R)⟩
    · rename_i n
      obtain ⟨a, ea, rfl⟩ := pv
      cases q2 : l1[n]? with
      | none => rw [q2] at q; cases q
      | some ob =>
        rw [q2] at q
        cases ob with
        | lst ws0 =>
          cases q
          obtain ⟨_, vs, hH, hl⟩ := S1.at_ n a _ ea q2
          exact ⟨a, vs, rfl, .inl (.inl (.inl hH)), fin hl⟩
        | tup _ => cases q
        | ins _ _ => cases q
        | dct _ _ => cases q
        | dead => cases q
    · cases q
end
end Vx

set_option maxHeartbeats 4000000
namespace Vx
open PySem PySem.Spec PyProof.Rows L2
variable [tb : Tbs] [sp : Spv]

/-! targets -/
def gMany : List Nat → TGs
  | [] => gNil
  | i :: is => gCons (gName i) (gMany is)
def gOf (K : PySem.W.Frag) : Tg → TG
  | .n i => gName i
  | .t is => gTup K is.length (gMany is)
/-- the names that sc owns may be stored -/
def Owns (X : Cx) (sc : Scope) : Prop := ∀ x : Str, sc.names.lookup x = some .local ∨ sc.names.lookup x = some .cell → L2.Loc X.env.scope x ∧ (X.fn x = true ∨ X.env.scope.names.lookup x = some .local)
section
variable {X : Cx} {sc : Scope}
theorem okN_of {N : List Str} {i : Nat} {x : Str} (h : okN N sc i x = true) : N[i]? = some x ∧ (sc.names.lookup x = some .local ∨ sc.names.lookup x = some .cell) := by
  unfold okN at h
  simp only [Bool.and_eq_true, Bool.or_eq_true, decide_eq_true_eq] at h
  exact h
theorem name_pg {i : Nat} {x : Str} {p : Pos} (nd : X.N.Nodup) (ow : Owns X sc) (h : okN X.N sc i x = true) : PG X (.Name x p) (gName i) := by
  obtain ⟨h1, h2⟩ := okN_of h
  obtain ⟨h3, h4⟩ := ow x h2
  exact pg_name nd h1 h3 h4
theorem names_pg (nd : X.N.Nodup) (ow : Owns X sc) : ∀ (is : List Nat) (es : List Expr), okNs X.N sc is es = true → PGs X es (gMany is) ∧ (assignEach es X.env).length = is.length ∧ (assignEach es X.env).findIdx? (·.1) = none
  | [], [], _ => ⟨pgs_nil, rfl, rfl⟩
  | i :: is, e :: es, h => by
    cases e <;> first | (exact absurd h Bool.false_ne_true) | skip
    rename_i x p
    have h' : okN X.N sc i x = true ∧ okNs X.N sc is es = true := by
      have : (okN X.N sc i x && okNs X.N sc is es) = true := h
      simpa using this
    obtain ⟨r1, r2, r3⟩ := names_pg nd ow is es h'.2
    refine ⟨pgs_cons (name_pg nd ow h'.1) r1 rfl, congrArg Nat.succ r2, ?_⟩
    show ((false, assign (.Name x p) X.env) :: assignEach es X.env).findIdx? (·.1) = none
    rw [List.findIdx?_cons, if_neg Bool.false_ne_true, r3]
    rfl
  | [], _ :: _, h => absurd h Bool.false_ne_true
  | _ :: _, [], h => absurd h Bool.false_ne_true
theorem tg_pg {tg : Tg} {t : Expr} (nd : X.N.Nodup) (calm : X.calm = true) (ow : Owns X sc) (h : okTg X.N sc tg t = true) : PG X t (gOf X.K tg) := by
  cases tg with
  | n i =>
    cases t <;> first | (exact absurd h Bool.false_ne_true) | skip
    exact name_pg nd ow h
  | t is =>
    cases t <;> first | (exact absurd h Bool.false_ne_true) | skip
    obtain ⟨r1, r2, r3⟩ := names_pg nd ow is _ h
    exact pg_tup calm r1 r2 r3
end
theorem EnvR.set {F : Gh} {ms : List Addr} {ρ : Env} {σ : L2.St} {v : V} {w : W} (E : EnvR F ms ρ σ) (p : Rp F ms v w) (i : Nat) : EnvR F ms (ρ.set i (some w)) (σ.set i (some v)) where
  len := by simp [E.len]
  at_ := fun j u e => by
    by_cases hj : j = i
    · subst hj
      have hl : j < ρ.length := by
        have := (List.getElem?_eq_some_iff.mp e).1
        simpa using this
      rw [List.getElem?_set_self hl] at e
      cases e
      exact ⟨v, by rw [List.getElem?_set_self (by rw [← E.len]; exact hl)], p⟩
    · rw [List.getElem?_set_ne (Ne.symm hj)] at e
      rw [List.getElem?_set_ne (Ne.symm hj)]
      exact E.at_ j u e
theorem wipe_set {i : Nat} {x : Option V} : ∀ {vs : List Nat} {σ : L2.St}, i ∈ vs → wipe (σ.set i x) vs = wipe σ vs
  | [], _, h => by cases h
  | v :: vs, σ, h => by
    show (wipe (σ.set i x) vs).set v none = (wipe σ vs).set v none
    by_cases hm : i ∈ vs
    · rw [wipe_set hm]
    · have e : i = v := by rcases List.mem_cons.mp h with e | e; exact e; exact absurd e hm
      subst e
      have key : ∀ (vs : List Nat) (σ : L2.St), i ∉ vs → wipe (σ.set i x) vs = (wipe σ vs).set i x := by
        intro vs
        induction vs with
        | nil => intro σ _; rfl
        | cons u us ih =>
          intro σ hn
          show (wipe (σ.set i x) us).set u none = ((wipe σ us).set u none).set i x
          rw [ih σ fun h => hn (List.mem_cons_of_mem _ h)]
          exact List.set_comm _ _ (fun e => hn (by rw [e]; exact List.mem_cons_self))
      rw [key vs σ hm, List.set_set]
theorem EnvR.wipe {F : Gh} {ms : List Addr} : ∀ {vs : List Nat} {ρ : Env} {σ : L2.St}, EnvR F ms ρ σ → EnvR F ms (wipeE ρ vs) (wipe σ vs)
  | [], _, _, E => E
  | v :: vs, ρ, σ, E => by
    have E1 := EnvR.wipe (vs := vs) E
    refine ⟨?_, fun j u e => ?_⟩
    · show ((wipeE ρ vs).set v none).length = ((L2.wipe σ vs).set v none).length
      simp [E1.len]
    · have e' : ((wipeE ρ vs).set v none)[j]? = some (some u) := e
      by_cases hj : j = v
      · subst hj
        have hl : j < (wipeE ρ vs).length := by
          have := (List.getElem?_eq_some_iff.mp e').1
          simpa using this
        rw [List.getElem?_set_self hl] at e'
        cases e'
      · rw [List.getElem?_set_ne (Ne.symm hj)] at e'
        show ∃ z, ((L2.wipe σ vs).set v none)[j]? = some (some z) ∧ _
        rw [List.getElem?_set_ne (Ne.symm hj)]
        exact E1.at_ j u e'
theorem many_ok {F : Gh} {H : Hp} {ms : List Addr} {Q : L2.St → Hp → Prop} : ∀ {is : List Nat} {ds : List W} {vs : List V} {ρ ρ1 : Env} {σ : L2.St}, EnvR F ms ρ σ → RpL F ms vs ds → setMany is ds ρ = some ρ1 →
    (∀ σ', EnvR F ms ρ1 σ' → (∀ ws : List Nat, (∀ i ∈ is, i ∈ ws) → wipe σ' ws = wipe σ ws) → Q σ' H) → gMany is vs σ H Q
  | [], [], [], ρ, ρ1, σ, E, _, e, q => by
    cases (show some ρ = some ρ1 from e)
    exact ⟨rfl, q σ E fun _ _ => rfl⟩
  | i :: is, d :: ds, v :: r, ρ, ρ1, σ, E, ⟨h1, h2⟩, e, q => by
    refine ⟨v, r, rfl, ?_⟩
    exact many_ok (E.set (w := d) h1 i) h2 e fun σ' E' hw => q σ' E' fun ws hs => by
      rw [hw ws fun j hj => hs j (List.mem_cons_of_mem _ hj), wipe_set (hs i List.mem_cons_self)]
  | [], _ :: _, _, _, _, _, _, _, e, _ => by cases e
  | _ :: _, [], _, _, _, _, _, _, e, _ => by cases e
  | [], [], _ :: _, _, _, _, _, h, _, _ => h.elim
  | _ :: _, _ :: _, [], _, _, _, _, h, _, _ => h.elim
theorem asg_ok {F : Gh} {H : Hp} {K : PySem.W.Frag} {ms : List Addr} {st : Loc} {Q : L2.St → Hp → Prop} {tg : Tg} {v : V} {w : W} {ρ ρ1 : Env} {σ : L2.St} (S : SRel F ms st H) (E : EnvR F ms ρ σ) (p : Rp F ms v w) (e : asgT st tg w ρ = some ρ1)
    (q : ∀ σ', EnvR F ms ρ1 σ' → (∀ ws : List Nat, (∀ i ∈ tgIs tg, i ∈ ws) → wipe σ' ws = wipe σ ws) → Q σ' H) : gOf K tg v σ H Q := by
  cases tg with
  | n i =>
    cases (show some (ρ.set i (some w)) = some ρ1 from e)
    exact q _ (E.set p i) fun ws hs => wipe_set (hs i List.mem_cons_self)
  | t is =>
    cases w with
    | r n =>
      obtain ⟨a, ea, rfl⟩ := p
      unfold asgT at e
      dsimp only at e
      cases q2 : st[n]? with
      | none => rw [q2] at e; cases e
      | some ob =>
        rw [q2] at e
        cases ob with
        | tup ws =>
          dsimp only at e
          split at e
          · rename_i hl
            obtain ⟨_, vs, hH, R⟩ := S.at_ n a _ ea q2
            exact ⟨a, vs, rfl, .inl (.inl hH), R.len.trans hl, many_ok E R e q⟩
          · cases e
        | lst _ => cases e
        | dct _ _ => cases e
        | ins _ _ => cases e
        | dead => cases e
    | d x =>
      cases x <;> first | (cases e; done) | skip
      rename_i ds
      have e2 : (if ds.length = is.length then setMany is (ds.map .d) ρ else none) = some ρ1 := e
      split at e2
      · rename_i hl
        obtain ⟨a, vs, rfl, ha, R⟩ := (show Rep F v (.tup ds) from p)
        exact ⟨a, vs, rfl, .inl (S.le _ _ ha), R.len.trans hl, many_ok E (RpL.of R) e2 q⟩
      · cases e2
/-- an item of a walk -/
def RpI (F : Gh) (ms : List Addr) (H : Hp) (x : V) : Itm → Prop
  | .one w => Rp F ms x w
  | .many ws => ∃ a vs, x = .ref a ∧ H a = some (.tup vs) ∧ RpL F ms vs ws
theorem asgI_ok {F : Gh} {H : Hp} {K : PySem.W.Frag} {ms : List Addr} {st : Loc} {Q : L2.St → Hp → Prop} {tg : Tg} {v : V} {w : Itm} {ρ ρ1 : Env} {σ : L2.St} (S : SRel F ms st H) (E : EnvR F ms ρ σ) (p : RpI F ms H v w) (e : asgI st tg w ρ = some ρ1)
    (q : ∀ σ', EnvR F ms ρ1 σ' → (∀ ws : List Nat, (∀ i ∈ tgIs tg, i ∈ ws) → wipe σ' ws = wipe σ ws) → Q σ' H) : gOf K tg v σ H Q := by
  cases w with
  | one w => exact asg_ok S E p (by cases tg <;> exact e) q
  | many ws =>
    cases tg with
    | n i => cases e
    | t is =>
      obtain ⟨a, vs, rfl, hH, R⟩ := p
      have e2 : (if ws.length = is.length then setMany is ws ρ else none) = some ρ1 := e
      split at e2
      · rename_i hl
        exact ⟨a, vs, rfl, .inl (.inl hH), R.len.trans hl, many_ok E R e2 q⟩
      · cases e2

/-! what is walked -/
structure Wk (J : It) (ds : List Itm) (F : Gh) (ms : List Addr) (P : Loc → Prop) : Prop where
  go : ∀ (i : Nat) (F1 : Gh) (ms1 : List Addr) (st1 : Loc) (H1 : Hp), (∀ a o, F a = some o → F1 a = some o) → (∀ a n o, F.ob a n = some o → F1.ob a n = some o) → ms <+: ms1 → SRel F1 ms1 st1 H1 → P st1 → i < ds.length →
    J.go i H1 ∧ ∀ x H2, J.yld i H1 x H2 → ∃ d, Stp F1 ms1 H1 F1 ms1 H2 ∧ SRel F1 ms1 st1 H2 ∧ ds[i]? = some d ∧ RpI F1 ms1 H2 x d
  stop : ∀ (F1 : Gh) (ms1 : List Addr) (st1 : Loc) (H1 : Hp), (∀ a o, F a = some o → F1 a = some o) → (∀ a n o, F.ob a n = some o → F1.ob a n = some o) → ms <+: ms1 → SRel F1 ms1 st1 H1 → P st1 → J.stop ds.length H1
theorem wk_list {K : PySem.W.Frag} {F : Gh} {ms : List Addr} {P : Loc → Prop} {a : Addr} {vs : List V} {ds : List D} (ha : F a = some (.lst vs)) (R : RepL F vs ds) : Wk (Itl K a) (ds.map fun d => .one (.d d)) F ms P where
  go := fun i F1 ms1 st1 H1 sub _ _ S _ hi => by
    have q : SqL K H1 a vs := .inl (S.le _ _ (sub _ _ ha))
    have hi' : i < ds.length := by simpa using hi
    have e : ds[i]? = some ds[i] := List.getElem?_eq_getElem hi'
    obtain ⟨v, hv, hr⟩ := R.get e
    refine ⟨⟨vs, v, q, hv⟩, fun x H2 ⟨e2, hx⟩ => ?_⟩
    subst e2
    have := hx vs q
    rw [hv] at this; cases this
    exact ⟨.one (.d ds[i]), Stp.refl, S, by rw [List.getElem?_map, e]; rfl, Rep.mono sub _ _ hr⟩
  stop := fun F1 ms1 st1 H1 sub _ _ S _ => ⟨vs, .inl (S.le _ _ (sub _ _ ha)), by rw [R.len, List.length_map]; exact Nat.le_refl _⟩
theorem wk_tup {K : PySem.W.Frag} {F : Gh} {ms : List Addr} {P : Loc → Prop} {a : Addr} {vs : List V} {ds : List D} (ha : F a = some (.tup vs)) (R : RepL F vs ds) : Wk (Itt K a) (ds.map fun d => .one (.d d)) F ms P where
  go := fun i F1 ms1 st1 H1 sub _ _ S _ hi => by
    have q : SqT K H1 a vs := .inl (S.le _ _ (sub _ _ ha))
    have hi' : i < ds.length := by simpa using hi
    have e : ds[i]? = some ds[i] := List.getElem?_eq_getElem hi'
    obtain ⟨v, hv, hr⟩ := R.get e
    refine ⟨⟨vs, v, q, hv⟩, fun x H2 ⟨e2, hx⟩ => ?_⟩
    subst e2
    have := hx vs q
    rw [hv] at this; cases this
    exact ⟨.one (.d ds[i]), Stp.refl, S, by rw [List.getElem?_map, e]; rfl, Rep.mono sub _ _ hr⟩
  stop := fun F1 ms1 st1 H1 sub _ _ S _ => ⟨vs, .inl (S.le _ _ (sub _ _ ha)), by rw [R.len, List.length_map]; exact Nat.le_refl _⟩
/-- a list of the store, while it stays -/
theorem wk_obj {K : PySem.W.Frag} {F : Gh} {ms : List Addr} {l0 : Loc} {n : Nat} {a : Addr} {ws : List W} (ea : ms[n]? = some a) (q0 : l0[n]? = some (.lst ws)) : Wk (Itl K a) (ws.map .one) F ms (stays (some n) l0) where
  go := fun i F1 ms1 st1 H1 sub _ pr S hp hi => by
    have q1 : st1[n]? = some (.lst ws) := (show st1[n]? = l0[n]? from hp).trans q0
    obtain ⟨_, vs, hH, hl⟩ := S.at_ n a _ (pre_get pr ea) q1
    have q : SqL K H1 a vs := .inl (.inl hH)
    have hi' : i < ws.length := by simpa using hi
    have e : ws[i]? = some ws[i] := List.getElem?_eq_getElem hi'
    obtain ⟨v, hv, hr⟩ := hl.get e
    refine ⟨⟨vs, v, q, hv⟩, fun x H2 ⟨e2, hx⟩ => ?_⟩
    subst e2
    have := hx vs q
    rw [hv] at this; cases this
    exact ⟨.one ws[i], Stp.refl, S, by rw [List.getElem?_map, e]; rfl, hr⟩
  stop := fun F1 ms1 st1 H1 sub _ pr S hp => by
    have q1 : st1[n]? = some (.lst ws) := (show st1[n]? = l0[n]? from hp).trans q0
    obtain ⟨_, vs, hH, hl⟩ := S.at_ n a _ (pre_get pr ea) q1
    exact ⟨vs, .inl (.inl hH), by rw [hl.len, List.length_map]; exact Nat.le_refl _⟩
theorem wk_str {F : Gh} {ms : List Addr} {P : Loc → Prop} (z : Tx) : Wk (Its (sx z)) (z.map fun c => .one (.d (.str [c]))) F ms P where
  go := fun i F1 ms1 st1 H1 sub _ _ S _ hi => by
    have hi' : i < z.length := by simpa using hi
    refine ⟨by show i < (sx z).cps.size; simpa [sx] using hi', fun x H2 ⟨e2, c, hc, ex⟩ => ?_⟩
    subst e2 ex
    have hc' : z[i]? = some c := by simpa [sx] using hc
    exact ⟨.one (.d (.str [c])), Stp.refl, S, by rw [List.getElem?_map, hc']; rfl, rfl⟩
  stop := fun F1 ms1 st1 H1 sub _ _ S _ => by show (sx z).cps.size ≤ _; simp [sx]
theorem wk_rng {F : Gh} {ms : List Addr} {P : Loc → Prop} (lo : Int) (n : Nat) (ds : List Itm) (hd : ds = (List.range n).map fun (i : Nat) => Itm.one (.d (.int (lo + (i : Int))))) : Wk (Itr lo n) ds F ms P := by
  subst hd
  refine ⟨fun i F1 ms1 st1 H1 sub _ _ S _ hi => ?_, fun F1 ms1 st1 H1 sub _ _ S _ => ?_⟩
  · have hi' : i < n := by simpa using hi
    refine ⟨hi', fun x H2 ⟨e2, ex⟩ => ?_⟩
    subst e2 ex
    exact ⟨.one (.d (.int (lo + i))), Stp.refl, S, by rw [List.getElem?_map, List.getElem?_range hi']; rfl, rfl⟩
  · show n ≤ _; simp
/-! dicts with plain keys -/
/-- the keys, the pairs of the dict whose object is o -/
def Jk (d : Addr) (o : PySem.Obj) (vs : List (Option L2.Key × Value)) : It :=
  ⟨fun i H => H d = some (obE d o) ∧ i < vs.length, fun i H x H' => H' = H ∧ ∃ p u, vs[i]? = some p ∧ (noneKind Tbs.P Tbs.w).is p.1 u = true ∧ RelV x u, fun i H => H d = some (obE d o) ∧ vs.length ≤ i⟩
def Ji (d : Addr) (o : PySem.Obj) (vs : List (Option L2.Key × Value)) : It :=
  ⟨fun i H => H d = some (obE d o) ∧ i < vs.length, fun i H x H' => ∃ T p u y z, vs[i]? = some p ∧ (noneKind Tbs.P Tbs.w).is p.1 u = true ∧ RelV y u ∧ RelV z p.2 ∧ x = .ref T ∧ H T = none ∧ H' = upd H T (.tup [y, z]), fun i H => H d = some (obE d o) ∧ vs.length ≤ i⟩
/-- a key's value is one -/
theorem at_val {P : Program} {w : World} {F : Gh} {k : D} {u : Value} (a : isAt k = true) (h : (noneKind P w).is (atK k) u = true) : ∃ v, RelV v u ∧ Rep F v k := by
  cases k <;> first | (cases a; done) | skip
  · have := nk_none (show nkIs none u = true from h)
    subst this
    exact ⟨.non, rfl, rfl⟩
  · rename_i i
    exact ⟨_, relV_key (k := Sum.inl i) (show keyIs (Sum.inl i) u = true from h), rfl⟩
  · rename_i z
    exact ⟨_, relV_key (k := Sum.inr (sx z)) (show keyIs (Sum.inr (sx z)) u = true from h), rfl⟩
/-- and just one -/
theorem rel_one {P : Program} {w : World} {F : Gh} {k : D} {u : Value} {v : V} (a : isAt k = true) (h : (noneKind P w).is (atK k) u = true) (r : RelV v u) : Rep F v k := by
  cases k <;> first | (cases a; done) | skip
  · have := nk_none (show nkIs none u = true from h)
    subst this
    cases v <;> first | rfl | (obtain ⟨t, e⟩ := (show ∃ t, _ = _ from r); cases e; done) | (cases (show _ = _ from r))
  · rename_i i
    obtain ⟨t, e⟩ := Value.isInt_shape (k := i) (v := u) (show u.isInt i = true from h)
    subst e
    cases v <;> first | (obtain ⟨t, e⟩ := (show ∃ t, _ = _ from r); cases e; first | rfl | done) | (cases (show _ = _ from r))
  · rename_i z
    obtain ⟨t, e⟩ := Value.isStrOf_shape (x := sx z) (v := u) (show Value.isStrOf (sx z) u = true from h)
    subst e
    cases v <;> first | (obtain ⟨t, e⟩ := (show ∃ t, _ = _ from r); cases e; first | rfl | done) | (cases (show _ = _ from r))
def iOf (T : Tab) (Wx : WX) (k : Ik) (fe : Env → Loc → Res (List W)) : TI := fun σ H R =>
  ∃ (F : Gh) (ms : List Addr) (ρ : Env) (l : Loc), SRel F ms l H ∧ EnvR F ms ρ σ ∧ Fin T (fun c d H' => Wx c d σ H') F ms H ((fe ρ l).bind fun ws l => (ret (itms l k ws) l).bind fun ds l => Res.ok (ws, ds) l) (fun p l F' ms' H' => ∀ J, Wk J p.2 F' ms' (stays (walked k p.1) l) → R J H')
section
variable {T : Tab} {k : Nat} {X : Cx} {sc : Scope} {Wx : WX} {tg : Expr}
theorem bind_assoc' {α β γ : Type} (r : Res α) (f : α → Loc → Res β) (g : β → Loc → Res γ) : (r.bind f).bind g = r.bind fun a l => (f a l).bind g := by cases r <;> rfl
theorem one_eq {a : Env → Loc → Res W} {ρ : Env} {l : Loc} {k : Ik} : (((a ρ l).bind fun w l => (Res.ok ([] : List W) l).bind fun ws l => Res.ok (w :: ws) l).bind fun ws l => (ret (itms l k ws) l).bind fun ds l => Res.ok (ws, ds) l) = (a ρ l).bind fun w l => (ret (itms l k [w]) l).bind fun ds l => Res.ok ([w], ds) l := by
  rw [bind_assoc']; rfl
theorem Fin.ret0 {α : Type} {T : Tab} {E : XK} {F : Gh} {ms : List Addr} {H : Hp} {o : Option (List Itm)} {ws : α} {l : Loc} {K : α × List Itm → Loc → Gh → List Addr → Hp → Prop} (h : Fin T E F ms H ((Vx.ret o l).bind fun ds l => Res.ok (ws, ds) l) K) : ∃ ds, o = some ds ∧ Fin T E F ms H (.ok (ws, ds) l) K := by
  cases o with
  | none => exact h.elim
  | some ds => exact ⟨ds, rfl, h⟩
theorem lst_pi {e : Expr} {fa : Env → Loc → Res W} (ha : PE X e (tE T Wx fa)) : PI X tg e (iOf T Wx .lst fun ρ l => (fa ρ l).bind fun w l => (Res.ok ([] : List W) l).bind fun ws l => Res.ok (w :: ws) l) := by
  refine pi_mono (pi_list ha) fun σ H R ⟨F, ms, ρ, l, S, E, h⟩ => ⟨F, ms, ρ, l, S, E, ?_⟩
  dsimp only at h
  rw [one_eq] at h
  refine (Fin.bind h).mono fun w l1 F1 ms1 H1 t1 S1 z v p => ?_
  obtain ⟨ds, e, h1⟩ := Fin.ret0 z
  cases w with
  | r n =>
    obtain ⟨a, ea, rfl⟩ := p
    have e2 : (match l1[n]? with
      | some (.lst ws) => some (ws.map Itm.one)
      | _ => none) = some ds := e
    split at e2
    · rename_i ws q
      cases e2
      obtain ⟨_, vs, hH, R⟩ := S1.at_ n a _ ea q
      exact ⟨a, rfl, ⟨vs, .inl (.inl hH)⟩, Fin.here h1 S1 _ (wk_obj ea q)⟩
    · cases e2
  | d x =>
    cases x <;> first | (cases e; done) | skip
    rename_i es
    cases (show some (es.map fun d => Itm.one (.d d)) = some ds from e)
    obtain ⟨a, vs, rfl, ha, R⟩ := (show Rep F1 v (.lst es) from p)
    exact ⟨a, rfl, ⟨vs, .inl (S1.le _ _ ha)⟩, Fin.here h1 S1 _ (wk_list ha R)⟩
theorem tup_pi {e : Expr} {fa : Env → Loc → Res W} (ha : PE X e (tE T Wx fa)) : PI X tg e (iOf T Wx .tup fun ρ l => (fa ρ l).bind fun w l => (Res.ok ([] : List W) l).bind fun ws l => Res.ok (w :: ws) l) := by
  refine pi_mono (pi_tup ha) fun σ H R ⟨F, ms, ρ, l, S, E, h⟩ => ⟨F, ms, ρ, l, S, E, ?_⟩
  dsimp only at h
  rw [one_eq] at h
  refine (Fin.bind h).mono fun w l1 F1 ms1 H1 t1 S1 z v p => ?_
  obtain ⟨ds, e, h1⟩ := Fin.ret0 z
  cases w with
  | r n => cases e
  | d x =>
    cases x <;> first | (cases e; done) | skip
    rename_i es
    cases (show some (es.map fun d => Itm.one (.d d)) = some ds from e)
    obtain ⟨a, vs, rfl, ha, R⟩ := (show Rep F1 v (.tup es) from p)
    exact ⟨a, rfl, ⟨vs, .inl (S1.le _ _ ha)⟩, Fin.here h1 S1 _ (wk_tup ha R)⟩
theorem str_pi {e : Expr} {fa : Env → Loc → Res W} (ha : PE X e (tE T Wx fa)) : PI X tg e (iOf T Wx .str fun ρ l => (fa ρ l).bind fun w l => (Res.ok ([] : List W) l).bind fun ws l => Res.ok (w :: ws) l) := by
  refine pi_mono (pi_str ha) fun σ H R ⟨F, ms, ρ, l, S, E, h⟩ => ⟨F, ms, ρ, l, S, E, ?_⟩
  dsimp only at h
  rw [one_eq] at h
  refine (Fin.bind h).mono fun w l1 F1 ms1 H1 t1 S1 z v p => ?_
  obtain ⟨ds, e, h1⟩ := Fin.ret0 z
  cases w with
  | r n => cases e
  | d x =>
    cases x <;> first | (cases e; done) | skip
    rename_i y
    cases (show some (y.map fun c => Itm.one (.d (.str [c]))) = some ds from e)
    cases (show v = V.str (sx y) from p)
    exact ⟨sx y, rfl, Fin.here h1 S1 _ (wk_str y)⟩
theorem rng1_pi {x : Str} {e : Expr} {p pos : Pos} {fa : Env → Loc → Res W} (C : Cxt T k X sc Wx) (hg : okG sc x = true) (hx : x = "range") (hn : nst e = true) (ha : PE X e (tE T Wx fa)) :
    PI X tg (.Call (.Name x p) [e] [] pos) (iOf T Wx .rng1 fun ρ l => (fa ρ l).bind fun w l => (Res.ok ([] : List W) l).bind fun ws l => Res.ok (w :: ws) l) := by
  subst hx
  obtain ⟨g1, g2⟩ := gl_of C.sc hg
  have hA : PA X [e] (tCons (tE T Wx fa) tNil) := pa_cons ha pa_nil (star_cons hn)
  refine pi_mono (pi_range1 g1 (C.facts.fr _ (by simp)) hA (star_cons hn)) fun σ H R ⟨F, ms, ρ, l, S, E, h⟩ => ⟨F, ms, ρ, l, S, E, ?_⟩
  dsimp only at h
  rw [one_eq] at h
  refine (Fin.bind h).mono fun w l1 F1 ms1 H1 t1 S1 z v p => ?_
  obtain ⟨ds, e, h1⟩ := Fin.ret0 z
  cases w with
  | r n => cases e
  | d x =>
    cases x <;> first | (cases e; done) | skip
    rename_i n
    cases (show v = V.int n from p)
    have e2 : (if small62 n then some ((List.range n.toNat).map fun (i : Nat) => Itm.one (.d (.int (i : Int)))) else none) = some ds := e
    split at e2
    · rename_i hs
      cases e2
      obtain ⟨q1, q2⟩ := small62_ok hs
      refine ⟨n, rfl, q1, q2, Fin.here h1 S1 _ (wk_rng 0 n.toNat _ ?_)⟩
      show List.map _ _ = _
      congr 1
      funext i
      rw [Int.zero_add]
    · cases e2
theorem rng2_pi {x : Str} {e e2 : Expr} {p pos : Pos} {fa fb : Env → Loc → Res W} (C : Cxt T k X sc Wx) (hg : okG sc x = true) (hx : x = "range") (hn : nst e = true) (hn2 : nst e2 = true) (ha : PE X e (tE T Wx fa)) (hb : PE X e2 (tE T Wx fb)) :
    PI X tg (.Call (.Name x p) [e, e2] [] pos) (iOf T Wx .rng2 fun ρ l => (fa ρ l).bind fun w l => ((fb ρ l).bind fun w l => (Res.ok ([] : List W) l).bind fun ws l => Res.ok (w :: ws) l).bind fun ws l => Res.ok (w :: ws) l) := by
  subst hx
  obtain ⟨g1, g2⟩ := gl_of C.sc hg
  have hA : PA X [e, e2] (tCons (tE T Wx fa) (tCons (tE T Wx fb) tNil)) := pa_cons ha (pa_cons hb pa_nil (star_cons hn2)) (star_cons hn)
  refine pi_mono (pi_range2 g1 (C.facts.fr _ (by simp)) hA (by rw [star_cons hn, star_cons hn2]; rfl) (by rw [star_cons hn2]; rfl)) fun σ H R ⟨F, ms, ρ, l, S, E, h⟩ => ⟨F, ms, ρ, l, S, E, ?_⟩
  dsimp only at h
  rw [bind_assoc'] at h
  refine (Fin.bind h).mono fun w l1 F1 ms1 H1 t1 S1 z v p => ⟨F1, ms1, ρ, l1, S1, E.stp t1, ?_⟩
  rw [bind_assoc', bind_assoc'] at z
  refine (Fin.bind z).mono fun w2 l2 F2 ms2 H2 t2 S2 z2 v2 p2 => ?_
  obtain ⟨ds, e, h1⟩ := Fin.ret0 (o := itms l2 .rng2 [w, w2]) z2
  cases w with
  | r n => cases w2 <;> cases e
  | d x =>
    cases w2 with
    | r n => cases x <;> cases e
    | d y =>
      cases x <;> first | (cases e; done) | skip
      cases y <;> first | (cases e; done) | skip
      rename_i a b
      cases (show v = V.int a from p)
      cases (show v2 = V.int b from p2)
      have e3 : (if small62 a && small62 b then some ((List.range (b - a).toNat).map fun (i : Nat) => Itm.one (.d (.int (a + (i : Int))))) else none) = some ds := e
      split at e3
      · rename_i hs
        cases e3
        obtain ⟨k1, k2⟩ := Bool.and_eq_true_iff.mp hs
        obtain ⟨q1, q2⟩ := small62_ok k1
        obtain ⟨q3, q4⟩ := small62_ok k2
        exact ⟨a, b, rfl, ⟨q1, q2, q3, q4⟩, Fin.here h1 S2 _ (wk_rng a _ _ rfl)⟩
      · cases e3


/-! comprehensions -/
theorem Stp.sideTo {F : Gh} {H : Hp} {F1 : Gh} {H1 : Hp} {ms ms1 : List Addr} {p : Addr} {u : HO} (t : Stp F ms H F1 ms1 H1) (hp : H p = none) : Stp F ms H F1 ms1 (upd H1 p u) where
  sub := t.sub
  pre := t.pre
  keep := fun a v h n i => by rw [upd_ne (ne_of_none h hp)]; exact t.keep a v h n i
  new := t.new
  newF := t.newF
  obs := t.obs
theorem Stp.claimTo {F : Gh} {H : Hp} {F1 : Gh} {H1 : Hp} {ms ms1 : List Addr} {p : Addr} {u : HO} (t : Stp F ms H F1 ms1 H1) (hp : H p = none) (hF : F1 p = none) : Stp F ms H (upg F1 p u) ms1 H1 where
  sub := fun a v h => by
    have h1 := t.sub a v h
    rw [upg_ne (ne_of_none h1 hF)]; exact h1
  pre := t.pre
  keep := t.keep
  new := t.new
  newF := fun a v h => by
    by_cases q : a = p
    · subst q; exact .inr (.inl (.of hp))
    · rw [upg_ne q] at h; exact t.newF a v h
  obs := t.obs
theorem Stp.adoptTo {F : Gh} {H : Hp} {F1 : Gh} {H1 : Hp} {ms ms1 : List Addr} {p : Addr} (t : Stp F ms H F1 ms1 H1) (hp : H p = none) : Stp F ms H F1 (ms1 ++ [p]) H1 where
  sub := t.sub
  pre := t.pre.trans (List.prefix_append _ _)
  keep := t.keep
  new := fun a h n => by
    rcases List.mem_append.mp h with h | h
    · exact t.new a h n
    · simp at h; subst h; exact .of hp
  newF := fun a v h => by
    rcases t.newF a v h with z | z | z
    · exact .inl z
    · exact .inr (.inl z)
    · exact .inr (.inr (List.mem_append_left _ z))
  obs := t.obs
/-- the address stays apart from what a step makes -/
theorem Stp.apart {F : Gh} {H : Hp} {F1 : Gh} {H1 : Hp} {ms ms1 : List Addr} {p : Addr} {u : HO} (t : Stp F ms H F1 ms1 H1) (hH : H p = some u) (hF : F p = none) (hm : p ∉ ms) (hi : isTbl u = false := by rfl) : F1 p = none ∧ p ∉ ms1 ∧ H1 p = some u := by
  have hm1 : p ∉ ms1 := fun h => by
    exact (t.new p h hm).no hH hi
  refine ⟨?_, hm1, t.keep p u hH hm hi⟩
  cases q : F1 p with
  | none => rfl
  | some o =>
    rcases t.newF p o q with z | z | z
    · rw [hF] at z; cases z
    · exact (z.no hH hi).elim
    · exact absurd z hm1
/-- no exception leaves -/
abbrev W0 : WX := fun _ _ _ _ => False
theorem lc_read {T : Tab} {K : PySem.W.Frag} {Wx : WX} {m : Bool} {tg : Tg} {k : Ik} {fi : Env → Loc → Res (List W)} {fc : Env → Loc → Res Bool} {fe : Env → Loc → Res W} {vs : List Nat} (hown : ∀ i ∈ tgIs tg, i ∈ vs)
    {σ : L2.St} {H : Hp} {Q : VK} (h : tE T Wx (fun ρ l => (fi ρ l).bind fun ws l => (ret (itms l k ws) l).bind fun ds l => (noExc (lcGo (stays (walked k ws) l) fc fe tg ds (wipeE ρ vs) l)).bind fun ws l => mkLst m ws l) σ H Q) :
    tLc (iOf T Wx k fi) (gOf K tg) (tT T W0 fc) (tE T W0 fe) vs σ H Q := by
  obtain ⟨F, ms, ρ, l, S, E, h⟩ := h
  dsimp only at h
  have h : Fin T (fun c d H' => Wx c d σ H') F ms H (((fi ρ l).bind fun ws l => (ret (itms l k ws) l).bind fun ds l => Res.ok (ws, ds) l).bind fun p l => (noExc (lcGo (stays (walked k p.1) l) fc fe tg p.2 (wipeE ρ vs) l)).bind fun ws l => mkLst m ws l) (kE Q) := by
    rw [bind_assoc']
    have e : (fun (a : List W) (l : Loc) => ((ret (itms l k a) l).bind fun ds l => Res.ok (a, ds) l).bind fun p l => (noExc (lcGo (stays (walked k p.1) l) fc fe tg p.2 (wipeE ρ vs) l)).bind fun ws l => mkLst m ws l) = fun ws l => (ret (itms l k ws) l).bind fun ds l => (noExc (lcGo (stays (walked k ws) l) fc fe tg ds (wipeE ρ vs) l)).bind fun ws l => mkLst m ws l := by
      funext a l'
      rw [bind_assoc']
      rfl
    rw [e]
    exact h
  refine ⟨F, ms, ρ, l, S, E, (Fin.bind h).mono fun pd l1 F1 ms1 H1 t1 S1 z J wk D hD => ?_⟩
  obtain ⟨ws0, ds⟩ := pd
  dsimp only at z wk
  generalize hst : stays (walked k ws0) l1 = st at z wk
  cases hE : lcGo st fc fe tg ds (wipeE ρ vs) l1 with
  | bad => rw [hE] at z; exact z.elim
  | exc c p l' => rw [hE] at z; exact z.elim
  | ok ws lE =>
    rw [hE] at z
    have hk : Fin T (fun c d H' => Wx c d σ H') F1 ms1 H1 (mkLst m ws lE) (kE Q) := z
    have hz : ws.length ≤ 16777216 := by
      unfold mkLst at hk
      split at hk
      · assumption
      · exact hk.elim
    have E1 := (E.stp t1).wipe (vs := vs)
    have hDm := S1.nm hD
    have hDF := S1.notF hD
    let Wn : Nat → Hp → Prop := fun i H' => ∃ F' ms' l' acc aw ws', Stp F1 ms1 H1 F' ms' H' ∧ SRel F' ms' (l') H' ∧ H' D = some (.lst acc) ∧ RpL F' ms' acc aw ∧ lcGo st fc fe tg (ds.drop i) (wipeE ρ vs) l' = .ok ws' lE ∧ ws = aw ++ ws' ∧ F' D = none ∧ D ∉ ms'
    refine ⟨fun i n H' => n = ds.length - i ∧ i ≤ ds.length ∧ Wn i H', ⟨ds.length, by simp, Nat.zero_le _, F1, ms1, l1, [], [], ws, Stp.fresh hD, S1.side hDF hDm (tabs_lay S1.tabs hD), upd_same, trivial, hE, rfl, hDF, hDm⟩, ?_⟩
    rintro i n H' ⟨rfl, hi, F', ms', l', acc, aw, ws', t', S', hH', hacc, hgo, hws, hF', hm'⟩
    by_cases hlt : i < ds.length
    · have hdrop : ds.drop i = ds[i] :: ds.drop (i + 1) := List.drop_eq_getElem_cons hlt
      have hst' : st l' := by
        rw [hdrop] at hgo
        unfold lcGo at hgo
        split at hgo
        · assumption
        · cases hgo
      refine .inr ⟨(wk.go i F' ms' (l') H' t'.sub t'.obs t'.pre S' hst' hlt).1, Wn (i + 1), fun H'' w => ⟨ds.length - (i + 1), by omega, rfl, hlt, w⟩, fun x H2 y => ?_⟩
      obtain ⟨d, t2, S2, hd, hr⟩ := (wk.go i F' ms' (l') H' t'.sub t'.obs t'.pre S' hst' hlt).2 x H2 y
      obtain ⟨hF2, hm2, hH2⟩ := t2.apart hH' hF' hm'
      have hdrop : ds.drop i = d :: ds.drop (i + 1) := by
        rw [hdrop]
        have := List.getElem?_eq_getElem hlt
        rw [hd] at this; cases this; rfl
      rw [hdrop] at hgo
      unfold lcGo at hgo
      rw [if_pos hst'] at hgo
      cases hA : asgI l' tg d (wipeE ρ vs) with
      | none => rw [hA] at hgo; cases hgo
      | some ρ1 =>
        rw [hA] at hgo
        have hgo1 : ((fc ρ1 l').bind fun b l => match b with
          | true => (fe ρ1 l).bind fun w l => (lcGo st fc fe tg (ds.drop (i + 1)) (wipeE ρ vs) l).bind fun ws l => .ok (w :: ws) l
          | false => lcGo st fc fe tg (ds.drop (i + 1)) (wipeE ρ vs) l) = .ok ws' lE := hgo
        refine asgI_ok S2 ((E1.stp t').stp t2) hr hA fun σ' E' hw => ?_
        refine ⟨(hw vs hown).trans ?_, F', ms', ρ1, l', S2, E', ?_⟩
        · have key : ∀ (vs : List Nat) (σ : L2.St) , wipe (wipe σ vs) vs = wipe σ vs := by
            intro vs σ
            have k2 : ∀ (us vs : List Nat) (σ : L2.St), (∀ u ∈ us, u ∈ vs) → wipe (wipe σ us) vs = wipe σ vs := by
              intro us
              induction us with
              | nil => intro vs σ _; rfl
              | cons u us ih =>
                intro vs σ hs
                show wipe ((wipe σ us).set u none) vs = _
                rw [wipe_set (hs u List.mem_cons_self), ih vs σ fun v hv => hs v (List.mem_cons_of_mem _ hv)]
            exact k2 vs vs σ fun _ h => h
          exact key vs σ
        · cases hC : fc ρ1 l' with
          | bad => rw [hC] at hgo1; cases hgo1
          | exc c p l' => rw [hC] at hgo1; cases hgo1
          | ok b l2 =>
            rw [hC] at hgo1
            intro F3 ms3 H3 t3 S3
            obtain ⟨hF3, hm3, hH3⟩ := t3.apart hH2 hF2 hm2
            cases b with
            | false =>
              show Wn (i + 1) H3
              exact ⟨F3, ms3, l2, acc, aw, ws', (t'.trans t2).trans t3, S3, hH3, (hacc.stp t2).stp t3, hgo1, hws, hF3, hm3⟩
            | true =>
              show tE T W0 fe σ' H3 _
              have hgo2 : ((fe ρ1 l2).bind fun w l => (lcGo st fc fe tg (ds.drop (i + 1)) (wipeE ρ vs) l).bind fun ws l => .ok (w :: ws) l) = .ok ws' lE := hgo1
              refine ⟨F3, ms3, ρ1, l2, S3, E'.stp t3, ?_⟩
              cases hV : fe ρ1 l2 with
              | bad => rw [hV] at hgo2; cases hgo2
              | exc c p l' => rw [hV] at hgo2; cases hgo2
              | ok w l3 =>
                rw [hV] at hgo2
                intro F4 ms4 H4 t4 S4 v pv
                obtain ⟨hF4, hm4, hH4⟩ := t4.apart hH3 hF3 hm3
                have hgo3 : ((lcGo st fc fe tg (ds.drop (i + 1)) (wipeE ρ vs) l3).bind fun ws l => .ok (w :: ws) l) = .ok ws' lE := hgo2
                cases hR : lcGo st fc fe tg (ds.drop (i + 1)) (wipeE ρ vs) l3 with
                | bad => rw [hR] at hgo3; cases hgo3
                | exc c p l' => rw [hR] at hgo3; cases hgo3
                | ok ws2 l4 =>
                  rw [hR] at hgo3
                  cases hgo3
                  have hlen : acc.length = aw.length := hacc.len
                  have hwl : aw.length + (w :: ws2).length ≤ 16777216 := by rw [hws, List.length_append] at hz; exact hz
                  refine ⟨acc, hH4, by rw [hlen, line_eq]; simp at hwl; omega, F4, ms4, l3, acc ++ [v], aw ++ [w], ws2, ((t'.trans t2).trans (t3.trans t4)).sideTo hD, S4.side hF4 hm4 (tabs_put S4.tabs hH4 rfl), upd_same, ?_, hR, by rw [hws]; simp, hF4, hm4⟩
                  exact (((hacc.stp t2).stp t3).stp t4).append ⟨pv, trivial⟩
    · have e : i = ds.length := by omega
      subst e
      rw [List.drop_length] at hgo
      unfold lcGo at hgo
      split at hgo
      · rename_i hst'
        refine .inl ⟨wk.stop F' ms' (l') H' t'.sub t'.obs t'.pre S' hst', ?_⟩
        cases hgo
        rw [List.append_nil] at hws
        subst hws
        unfold mkLst at hk
        rw [if_pos hz] at hk
        cases m with
        | true =>
          have S2 : SRel F' (ms' ++ [D]) ((lE ++ [.lst ws])) H' := S'.adopt hm' ⟨hF', acc, hH', hacc.mono (fun _ _ h => h) (List.prefix_append _ _)⟩
          exact hk F' (ms' ++ [D]) H' (t'.adoptTo hD) S2 _ ⟨D, last_at S', rfl⟩
        | false =>
          obtain ⟨w, e, h1⟩ := Fin.ret hk
          cases q : unW ws with
          | none => rw [q] at e; cases e
          | some es =>
            rw [q] at e
            cases (show some (W.d (.lst es)) = some w from e)
            have R := hacc.un q
            refine h1 (upg F' D (.lst acc)) ms' H' (t'.claimTo hD hF') (S'.claim hF' hm' hH') _ ?_
            show Rep _ _ (.lst es)
            unfold Rep
            exact ⟨D, acc, rfl, upg_same, R.mono (fun a o h => by rw [upg_ne (ne_of_none h hF')]; exact h) _ _⟩
      · cases hgo
end
end Vx

set_option maxHeartbeats 4000000
namespace Vx
open PySem PySem.Spec PyProof.Rows L2
variable [tb : Tbs] [sp : Spv]

noncomputable abbrev cfA (T : Tab) (k : Nat) (ak : Nat → Res W → Res W) : Cf := ⟨Vx.call T.pt k, T.sub, ak, T.pt.fl, T.pt.mt, T.pt.ini⟩
theorem and2 {a b : Bool} (h : (a && b) = true) : a = true ∧ b = true := Bool.and_eq_true_iff.mp h
section
variable {T : Tab} {k : Nat} {ak : Nat → Res W → Res W}
/-- the context of a comprehension's block -/
theorem Cxt.blk {X : Cx} {sc : Scope} {Wx : WX} (C : Cxt T k X sc Wx) (hh : T.hot = false) (s : Shared) (H : Hp) (scope : Scope) (B : Addr) (cl : List (Str × Addr)) (fp : List Addr) : Cxt T k (X.blk s H scope (compEnvC scope cl B X.env) fp) (relS scope sc) W0 where
  facts := C.facts
  sc := by show relS scope X.env.scope = relS scope sc; rw [C.sc]
  nd := C.nd
  calm := C.calm
  room := C.room
  un := C.un
  tk := fun _ => takes0
  cold := C.cold
  exc := fun h => by rw [hh] at h; cases h
  lam := fun h => ⟨(C.lam h).has, (C.lam h).room⟩
  pw := ⟨C.pw.1, C.pw.2⟩
/-- what a call that hands a lambda keeps -/
def AskOk (T : Tab) (k : Nat) (ak : Nat → Res W → Res W) : Prop := ∀ (g : Nat) (body : Ex) (X : Cx) (sc : Scope) (Wx : WX) (x : Str) (p lpos pos : Pos) (ps : Arguments) (lb : Expr) (scope : Scope), Cxt T k X sc Wx → okG sc x = true → T.nm[g]? = some (some x) → LamX.lamSB sc scope = true → noPs ps = true →
  (∀ (Y : Cx) (Wy : WX), Y.N = X.N → Cxt T.plain k Y scope Wy → PE Y lb (tE T.plain Wy (evE (cfA T k ak) body))) → PE X (.Call (.Name x p) [.Lambda ps lb scope lpos] [] pos) (tE T Wx (evE (cfA T k ak) (.ask g body)))
theorem owns_blk {X : Cx} {N : List Str} {sc scope : Scope} {own : List (Str × Nat)} (hb : BlkOk N sc scope own) (s : Shared) (H : Hp) (B : Addr) (cl : List (Str × Addr)) (fp : List Addr) : Owns (X.blk s H scope (compEnvC scope cl B X.env) fp) scope := by
  intro x hx
  have hsc : (X.blk s H scope (compEnvC scope cl B X.env) fp).env.scope = relS scope X.env.scope := rfl
  rcases hx with hx | hx
  · have h1 : (relS scope X.env.scope).names.lookup x = some .local := lookup_relS_keep (by decide) hx
    exact ⟨.inl h1, .inr h1⟩
  · have h1 : (relS scope X.env.scope).names.lookup x = some .cell := lookup_relS_keep (by decide) hx
    refine ⟨.inr h1, .inl ?_⟩
    show (scope.names.lookup x == some NameKind.cell) = true
    rw [hx]; rfl
theorem const_rep {F : Gh} {ms : List Addr} {x : D} {c : Const} {v : V} {j : Nat} {pos : Pos} {X : Cx} (h : okC x c = true) : ∃ v, PE X (.Constant c j pos) (tC v) ∧ ∀ (sp : Spv) (F : Gh), @Rep sp F v x := by
  cases x <;> cases c <;> first | (exact absurd h Bool.false_ne_true) | skip
  · exact ⟨_, pe_non, fun _ F => rfl⟩
  · rename_i a b
    have e : a = b := by simpa [okC] using h
    subst e
    exact ⟨_, pe_bl, fun _ F => rfl⟩
  · rename_i a b
    have e : a = b := of_decide_eq_true h
    subst e
    exact ⟨_, pe_int, fun _ F => rfl⟩
  · rename_i a b
    have e : b = sx a := of_decide_eq_true h
    subst e
    exact ⟨_, pe_str, fun _ F => rfl⟩
theorem okNil {T : Tab} {N : List Str} {sc : Scope} {cf : Cf} {es : Exs} {xs : List Expr} (h : okEs T N sc es xs = true) (e : xs = []) (ρ : Env) (l : Loc) : evL cf es ρ l = .ok [] l := by
  subst e
  cases es with
  | nil => rfl
  | cons _ _ => exact absurd h Bool.false_ne_true
theorem plain_pt {X : Cx} {Wx : WX} {e : Expr} {fa : Env → Loc → Res W} (hp : tplain e = true) (ha : PE X e (tE T Wx fa)) : PT X e (tT T Wx fun ρ l => (fa ρ l).bind fun x l => ret (trW l x) l) := by
  refine ⟨fun pins s σ H Q I ⟨F, ms, ρ, l, S, E, h⟩ => ?_⟩
  refine isTrue_plain (runE ha I S E h fun u s1 v H1 F1 ms1 w l1 I1 r1 t1 S1 E1 p1 h1 => ?_) (true_id hp _)
  obtain ⟨b, e, h2⟩ := Fin.ret h1
  exact tr_ok I1 r1 S1 p1 e (Fin.here h2 S1)
theorem okT_e {N : List Str} {sc : Scope} {a : Ex} {e : Expr} (h : okT T N sc (.e a) e = true) : (tplain e = true ∨ isC a e = true) ∧ okE T N sc a e = true := by
  obtain ⟨h1, h2⟩ := and2 (show ((tplain e || isC a e) && okE T N sc a e) = true from h)
  exact ⟨by simpa using h1, h2⟩
theorem cmp_of {N : List Str} {sc : Scope} {o : Op2} {a b : Ex} {e : Expr} (h1 : isC (.op o a b) e = true) (h2 : okE T N sc (.op o a b) e = true) :
    ∃ l p r pos, e = .Compare l [p] [r] pos ∧ okCmp o p = true ∧ okE T N sc a l = true ∧ okE T N sc b r = true ∧ nset r = true := by
  cases e <;> first | (exact absurd h1 Bool.false_ne_true) | skip
  rename_i l ps rs pos
  match ps, rs, h1, h2 with
  | [p], [r], h1, h2 =>
    obtain ⟨h123, h4⟩ := and2 (show (okCmp o p && okE T N sc a l && okE T N sc b r && nset r) = true from h2)
    obtain ⟨h12, h3⟩ := and2 h123
    obtain ⟨h1, h2⟩ := and2 h12
    exact ⟨_, _, _, _, rfl, h1, h2, h3, h4⟩
  | [], _, h1, _ => exact absurd h1 Bool.false_ne_true
  | [_], [], h1, _ => exact absurd h1 Bool.false_ne_true
  | [_], _ :: _ :: _, h1, _ => exact absurd h1 Bool.false_ne_true
  | _ :: _ :: _, _, h1, _ => exact absurd h1 Bool.false_ne_true
theorem chain_of {N : List Str} {sc : Scope} {o1 o2 : Op2} {a b c : Ex} {e : Expr} (h2 : okE T N sc (.chain o1 o2 a b c) e = true) :
    ∃ l p q r t pos, e = .Compare l [p, q] [r, t] pos ∧ okCmp o1 p = true ∧ okCmp o2 q = true ∧ nset t = true ∧ okE T N sc a l = true ∧ okE T N sc b r = true ∧ okE T N sc c t = true := by
  cases e <;> first | (exact absurd h2 Bool.false_ne_true) | skip
  rename_i l ps rs pos
  match ps, rs, h2 with
  | [p, q], [r, t], h2 =>
    obtain ⟨h12345, h6⟩ := and2 (show (okCmp o1 p && okCmp o2 q && nset t && okE T N sc a l && okE T N sc b r && okE T N sc c t) = true from h2)
    obtain ⟨h1234, h5⟩ := and2 h12345
    obtain ⟨h123, h4⟩ := and2 h1234
    obtain ⟨h12, h3⟩ := and2 h123
    obtain ⟨h1, h2⟩ := and2 h12
    exact ⟨_, _, _, _, _, _, rfl, h1, h2, h3, h4, h5, h6⟩
  | [], _, h => exact absurd h Bool.false_ne_true
  | [_], _, h => exact absurd h Bool.false_ne_true
  | [_, _], [], h => exact absurd h Bool.false_ne_true
  | [_, _], [_], h => exact absurd h Bool.false_ne_true
  | [_, _], _ :: _ :: _ :: _, h => exact absurd h Bool.false_ne_true
  | _ :: _ :: _ :: _, _, h => exact absurd h Bool.false_ne_true
theorem and_pw {X : Cx} {Wx : WX} {a b : Expr} {rest : List Expr} {pos : Pos} {fa fb : Env → Loc → Res Bool} (ha : PT X a (tT T Wx fa)) (hb : Unit → PW X (.BoolOp .And (b :: rest) pos) (tT T Wx fb)) :
    PW X (.BoolOp .And (a :: b :: rest) pos) (tT T Wx fun ρ l => (fa ρ l).bind fun t l => match t with
      | true => fb ρ l
      | false => .ok false l) := by
  have h := pw_and ha (hb ())
  refine ⟨fun wh pins s σ H Q I ⟨F, ms, ρ, l, S, E, q⟩ => h.run wh pins s σ H Q I ⟨F, ms, ρ, l, S, E, (Fin.bind q).mono fun b l1 F1 ms1 H1 t1 S1 z => ?_⟩⟩
  cases b with
  | true => exact ⟨F1, ms1, ρ, l1, S1, E.stp t1, z⟩
  | false => exact Fin.here z S1
theorem or_pw {X : Cx} {Wx : WX} {a b : Expr} {rest : List Expr} {pos : Pos} {fa fb : Env → Loc → Res Bool} (ha : PT X a (tT T Wx fa)) (hb : Unit → PW X (.BoolOp .Or (b :: rest) pos) (tT T Wx fb)) :
    PW X (.BoolOp .Or (a :: b :: rest) pos) (tT T Wx fun ρ l => (fa ρ l).bind fun t l => match t with
      | true => .ok true l
      | false => fb ρ l) := by
  have h := pw_or ha (hb ())
  refine ⟨fun wh pins s σ H Q I ⟨F, ms, ρ, l, S, E, q⟩ => h.run wh pins s σ H Q I ⟨F, ms, ρ, l, S, E, (Fin.bind q).mono fun b l1 F1 ms1 H1 t1 S1 z => ?_⟩⟩
  cases b with
  | false => exact ⟨F1, ms1, ρ, l1, S1, E.stp t1, z⟩
  | true => exact Fin.here z S1
/-- of and, or the test is the same whatever the whole is -/
theorem bool_pw {X : Cx} {op : BoolOp} {xs : List Expr} {pos : Pos} {t : TT} (h : PT X (.BoolOp op xs pos) t) : PW X (.BoolOp op xs pos) t := ⟨fun wh pins s σ H Q I q => h.run pins s σ H Q I q⟩
theorem pa_mono {X : Cx} {es : List Expr} {t t' : TA} (h : PA X es t) (m : ∀ σ H Q, t' σ H Q → t σ H Q) : PA X es t' := ⟨fun pos pins s σ H Q I q => h.run pos pins s σ H Q I (m σ H Q q)⟩
theorem pts_mono {X : Cx} {es : List Expr} {t t' : TT} (h : PTs X es t) (m : ∀ σ H Q, t' σ H Q → t σ H Q) : PTs X es t' := ⟨fun pins s σ H Q I q => h.run pins s σ H Q I (m σ H Q q)⟩
theorem okI_r1 {N : List Str} {sc : Scope} {a : Ex} {e : Expr} (h : okI T N sc .rng1 (.cons a .nil) e = true) : ∃ x p y pos, e = .Call (.Name x p) [y] [] pos ∧ okG sc x = true ∧ x = "range" ∧ nst y = true ∧ okE T N sc a y = true := by
  cases e <;> first | (exact absurd h Bool.false_ne_true) | skip
  rename_i fn xs kws pos
  cases fn <;> first | (exact absurd h Bool.false_ne_true) | skip
  rename_i x p
  match xs, kws, h with
  | [y], [], h =>
    obtain ⟨h123, h4⟩ := and2 (show (okG sc x && decide (x = "range") && nst y && okE T N sc a y) = true from h)
    obtain ⟨h12, h3⟩ := and2 h123
    obtain ⟨h1, h2⟩ := and2 h12
    exact ⟨_, _, _, _, rfl, h1, of_decide_eq_true h2, h3, h4⟩
  | [], _, h => exact absurd h Bool.false_ne_true
  | [_], _ :: _, h => exact absurd h Bool.false_ne_true
  | _ :: _ :: _, _, h => exact absurd h Bool.false_ne_true
theorem okI_r2 {N : List Str} {sc : Scope} {a b : Ex} {e : Expr} (h : okI T N sc .rng2 (.cons a (.cons b .nil)) e = true) : ∃ x p y z pos, e = .Call (.Name x p) [y, z] [] pos ∧ okG sc x = true ∧ x = "range" ∧ nst y = true ∧ nst z = true ∧ okE T N sc a y = true ∧ okE T N sc b z = true := by
  cases e <;> first | (exact absurd h Bool.false_ne_true) | skip
  rename_i fn xs kws pos
  cases fn <;> first | (exact absurd h Bool.false_ne_true) | skip
  rename_i x p
  match xs, kws, h with
  | [y, z], [], h =>
    obtain ⟨h12345, h6⟩ := and2 (show (okG sc x && decide (x = "range") && nst y && nst z && okE T N sc a y && okE T N sc b z) = true from h)
    obtain ⟨h1234, h5⟩ := and2 h12345
    obtain ⟨h123, h4⟩ := and2 h1234
    obtain ⟨h12, h3⟩ := and2 h123
    obtain ⟨h1, h2⟩ := and2 h12
    exact ⟨_, _, _, _, _, rfl, h1, of_decide_eq_true h2, h3, h4, h5, h6⟩
  | [], _, h => exact absurd h Bool.false_ne_true
  | [_], _, h => exact absurd h Bool.false_ne_true
  | [_, _], _ :: _, h => exact absurd h Bool.false_ne_true
  | _ :: _ :: _ :: _, _, h => exact absurd h Bool.false_ne_true
/-- isinstance(e, C) of the exception that is handled -/
theorem isx_pe {X : Cx} {sc : Scope} {Wx : WX} {c : Nat} {x y : Str} {e : Expr} {fa : Env → Loc → Res W} {p p2 pos : Pos} (C : Cxt T k X sc Wx) (hh : T.hot = true) (hg : okG sc x = true) (hx : x = "isinstance") (hg2 : okG sc y = true) (hy : T.cn[c]? = some y) (hn : nst e = true) (ha : PE X e (tE T Wx fa)) :
    PE X (.Call (.Name x p) [e, .Name y p2] [] pos) (tE T Wx fun ρ l => (fa ρ l).bind fun x l => ret (isxW T.sub c x) l) := by
  obtain ⟨g1, g2⟩ := gl_of C.sc hg
  obtain ⟨g3, g4⟩ := gl_of C.sc hg2
  obtain ⟨m1, m2, m3, m4, m5⟩ := C.facts.exc c y hy
  subst hx
  have hA : PA X [e, .Name y p2] (tCons (tE T Wx fa) (tCons (tC (.ref (T.ca c))) tNil)) := pa_cons ha (pa_cons (pe_glob (v := V.ref (T.ca c)) g3 m1 rfl g4) pa_nil) (star_cons hn)
  have key : CallR X (.builtin "isinstance") (fun xs H Q => ∃ (v : V) (F : Gh) (ms : List Addr) (l : Loc) (w wr : W), xs = [v, .ref (T.ca c)] ∧ SRel F ms l H ∧ Rp F ms v w ∧ isxW T.sub c w = some wr ∧ Kw F ms l H Q wr) := by
    intro pins s σ H xs us Q I r ⟨v, F, ms, l, w, wr, ex, S, pv, e, kw⟩
    unfold isxW at e
    split at e
    · rename_i c' ds
      cases q : T.sub c' c with
      | none => rw [q] at e; cases e
      | some b =>
        rw [q] at e
        cases e
        have pv' : Rep F v (.ins c' ds) := pv
        unfold Rep at pv'
        obtain ⟨a, rfl, hp⟩ := pv'
        obtain ⟨oe, z, hm, hz, hf, hc⟩ := C.exc hh a c' ds hp
        subst ex
        cases r with
        | cons rx rr =>
          cases rr with
          | cons rt rr =>
            cases rr
            cases rx
            cases rt
            have hget := (I.pin (a, oe) (List.mem_append.mpr (.inl hm))).1
            obtain ⟨vs, hv⟩ := hf
            obtain ⟨hz1, hz2⟩ := hz
            have J : PySem.W.InstAt s.heap a oe (T.ca c') none := by
              obtain ⟨oc, od, oda, osl⟩ := oe
              cases hz1
              cases hz2
              cases hv
              exact ⟨hget, rfl, rfl, trivial⟩
            have G := C.facts.xc c' z hc
            have ke := C.facts.kit c' c b q
            refine PySem.W.kia_one (PySem.W.handS_kitx_exc G.hg G.hk G.hs G.hd G.ha G.hn G.ht G.hm) I.kIn J ke (fun z => nomatch z) fun tk => ⟨.bl b, H, I.kept (t' := tk) fun _ _ z => z, rfl, ?_⟩
            exact kw F H _ Stp.refl S rfl
    · cases e
  refine pe_mono (pe_callB key g1 (C.facts.fr _ (by simp)) (by decide +kernel) hA (by decide +kernel) (by decide +kernel) (star_cons hn)) fun σ H Q ⟨F, ms, ρ, l, S, E, h⟩ => ⟨F, ms, ρ, l, S, E, (Fin.bind h).mono fun w l1 F1 ms1 H1 t1 S1 z1 v p => ?_⟩
  obtain ⟨wr, e, h1⟩ := Fin.ret z1
  exact ⟨v, F1, ms1, l1, w, wr, rfl, S1, p, e, h1.kw⟩
mutual
theorem sndE : ∀ (ir : Ex) (T : Tab) (hq : T.ask = true → AskOk T k ak) (X : Cx) (sc : Scope) (Wx : WX) (e : Expr), Cxt T k X sc Wx → okE T X.N sc ir e = true → PE X e (tE T Wx (evE (cfA T k ak) ir))
  | .c x, T, hq, X, sc, Wx, e, C, h => by
    cases e <;> first | (exact absurd h Bool.false_ne_true) | skip
    obtain ⟨v, hp, hr⟩ := const_rep (F := ⟨fun _ => none, fun _ _ => none⟩) (ms := []) (v := .non) (X := X) (show okC x _ = true from h)
    exact pe_mono hp fun σ H Q ⟨F, ms, ρ, l, S, E, h⟩ => Fin.here h S v (hr sp F)
  | .v i, T, hq, X, sc, Wx, e, C, h => by
    cases e <;> first | (exact absurd h Bool.false_ne_true) | skip
    obtain ⟨h1, h2, h3, h4⟩ := vis_of C.sc (show okV X.N sc i _ = true from h)
    refine pe_mono (pe_var h1 h2 h3 h4) fun σ H Q ⟨F, ms, ρ, l, S, E, h⟩ => ?_
    unfold evE at h
    split at h
    · rename_i w hw
      obtain ⟨v, e1, e2⟩ := E.at_ i w hw
      exact ⟨v, e1, Fin.here h S v e2⟩
    · exact h.elim
  | .g y d, T, hq, X, sc, Wx, e, C, h => by
    cases e <;> first | (exact absurd h Bool.false_ne_true) | skip
    rename_i x p
    obtain ⟨h12, h3⟩ := and2 (show (decide (y = x) && okG sc x && okCon (T.con x) d) = true from h)
    obtain ⟨h1, h2⟩ := and2 h12
    obtain ⟨g1, g2⟩ := gl_of C.sc h2
    have hc : T.con x = some d := by
      cases q : T.con x with
      | none => rw [q] at h3; exact absurd h3 Bool.false_ne_true
      | some z =>
        rw [q] at h3
        cases z <;> cases d <;> first | (exact absurd h3 Bool.false_ne_true) | skip
        · rw [of_decide_eq_true (show decide (_ = _) = true from h3)]
        · rw [of_decide_eq_true (show decide (_ = _) = true from h3)]
    obtain ⟨u, v, m1, m2, m3⟩ := C.facts.con x d hc
    exact pe_mono (pe_glob g1 m1 m2 g2) fun σ H Q ⟨F, ms, ρ, l, S, E, h⟩ => Fin.here h S v (m3 sp F)
  | .op o a b, T, hq, X, sc, Wx, e, C, h => by
    cases e <;> first | (exact absurd h Bool.false_ne_true) | skip
    · rename_i x p y pos
      obtain ⟨h12, h3⟩ := and2 (show (okBin o p && okE T X.N sc a x && okE T X.N sc b y) = true from h)
      obtain ⟨h1, h2⟩ := and2 h12
      exact bin_pe h1 (sndE a T hq X sc Wx x C h2) (sndE b T hq X sc Wx y C h3)
    · rename_i x ops cs pos
      match ops, cs, h with
      | [p], [y], h =>
        obtain ⟨h123, h4⟩ := and2 (show (okCmp o p && okE T X.N sc a x && okE T X.N sc b y && nset y) = true from h)
        obtain ⟨h12, h3⟩ := and2 h123
        obtain ⟨h1, h2⟩ := and2 h12
        exact cmp_pe C h1 h4 (sndE a T hq X sc Wx x C h2) (sndE b T hq X sc Wx y C h3)
      | [], _, h => exact absurd h Bool.false_ne_true
      | [_], [], h => exact absurd h Bool.false_ne_true
      | [_], _ :: _ :: _, h => exact absurd h Bool.false_ne_true
      | _ :: _ :: _, [], h => exact absurd h Bool.false_ne_true
      | _ :: _ :: _, _ :: _, h => exact absurd h Bool.false_ne_true
  | .chain o1 o2 a b c, T, hq, X, sc, Wx, e, C, h => by
    obtain ⟨l, p, q, r, t, pos, rfl, h1, h2, h3, h4, h5, h6⟩ := chain_of h
    exact chain_pe C h1 h2 h3 (sndE a T hq X sc Wx l C h4) (sndE b T hq X sc Wx r C h5) (sndE c T hq X sc Wx t C h6)
  | .and a b, T, hq, X, sc, Wx, e, C, h => by
    cases e <;> first | (exact absurd h Bool.false_ne_true) | skip
    rename_i op xs pos
    cases op <;> first | (exact absurd h Bool.false_ne_true) | skip
    match xs, h with
    | [], h => exact absurd h Bool.false_ne_true
    | [_], h => exact absurd h Bool.false_ne_true
    | [x, y], h =>
      obtain ⟨h1, h2⟩ := and2 (show (okE T X.N sc a x && okE T X.N sc b y) = true from h)
      exact and_pe (sndE a T hq X sc Wx x C h1) (pe_one (sndE b T hq X sc Wx y C h2))
    | x :: y :: z :: t, h =>
      obtain ⟨h1, h2⟩ := and2 (show (okE T X.N sc a x && okE T X.N sc b (.BoolOp .And (y :: z :: t) pos)) = true from h)
      exact and_pe (sndE a T hq X sc Wx x C h1) (sndE b T hq X sc Wx (.BoolOp .And (y :: z :: t) pos) C h2)
  | .or a b, T, hq, X, sc, Wx, e, C, h => by
    cases e <;> first | (exact absurd h Bool.false_ne_true) | skip
    rename_i op xs pos
    cases op <;> first | (exact absurd h Bool.false_ne_true) | skip
    match xs, h with
    | [], h => exact absurd h Bool.false_ne_true
    | [_], h => exact absurd h Bool.false_ne_true
    | [x, y], h =>
      obtain ⟨h1, h2⟩ := and2 (show (okE T X.N sc a x && okE T X.N sc b y) = true from h)
      exact or_pe (sndE a T hq X sc Wx x C h1) (pe_one (sndE b T hq X sc Wx y C h2))
    | x :: y :: z :: t, h =>
      obtain ⟨h1, h2⟩ := and2 (show (okE T X.N sc a x && okE T X.N sc b (.BoolOp .Or (y :: z :: t) pos)) = true from h)
      exact or_pe (sndE a T hq X sc Wx x C h1) (sndE b T hq X sc Wx (.BoolOp .Or (y :: z :: t) pos) C h2)
  | .not a, T, hq, X, sc, Wx, e, C, h => by
    cases e <;> first | (exact absurd h Bool.false_ne_true) | skip
    rename_i op x pos
    cases op <;> first | (exact absurd h Bool.false_ne_true) | skip
    exact not_pe (sndE a T hq X sc Wx x C h)
  | .neg a, T, hq, X, sc, Wx, e, C, h => by
    cases e <;> first | (exact absurd h Bool.false_ne_true) | skip
    rename_i op x pos
    cases op <;> first | (exact absurd h Bool.false_ne_true) | skip
    exact neg_pe (sndE a T hq X sc Wx x C h)
  | .ite c a b, T, hq, X, sc, Wx, e, C, h => by
    cases e <;> first | (exact absurd h Bool.false_ne_true) | skip
    rename_i x y z pos
    obtain ⟨h12, h3⟩ := and2 (show (okT T X.N sc c x && okE T X.N sc a y && okE T X.N sc b z) = true from h)
    obtain ⟨h1, h2⟩ := and2 h12
    exact ite_pe (sndT c T hq X sc Wx x C h1) (sndE a T hq X sc Wx y C h2) (sndE b T hq X sc Wx z C h3)
  | .tup es, T, hq, X, sc, Wx, e, C, h => by
    cases e <;> first | (exact absurd h Bool.false_ne_true) | skip
    rename_i xs n pos
    obtain ⟨h1, h2⟩ := and2 (show (xs.all nst && okEs T X.N sc es xs) = true from h)
    exact tup_pe (sndL es T hq X sc Wx xs C h1 h2)
  | .lst m es, T, hq, X, sc, Wx, e, C, h => by
    cases e <;> first | (exact absurd h Bool.false_ne_true) | skip
    rename_i xs pos
    obtain ⟨h1, h2⟩ := and2 (show (xs.all nst && okEs T X.N sc es xs) = true from h)
    exact lst_pe (sndL es T hq X sc Wx xs C h1 h2)
  | .idx a i, T, hq, X, sc, Wx, e, C, h => by
    cases e <;> first | (exact absurd h Bool.false_ne_true) | skip
    rename_i x y pos
    obtain ⟨h12, h3⟩ := and2 (show (nsl y && okE T X.N sc a x && okE T X.N sc i y) = true from h)
    obtain ⟨h1, h2⟩ := and2 h12
    exact idx_pe C h1 (sndE a T hq X sc Wx x C h2) (sndE i T hq X sc Wx y C h3)
  | .sl a lo hi, T, hq, X, sc, Wx, e, C, h => by
    cases e <;> first | (exact absurd h Bool.false_ne_true) | skip
    rename_i x y pos
    cases y <;> first | (exact absurd h Bool.false_ne_true) | skip
    rename_i p q r p2
    cases r with
    | some _ => exact absurd h Bool.false_ne_true
    | none =>
      obtain ⟨h12, h3⟩ := and2 (show (okE T X.N sc a x && okO T X.N sc lo p && okO T X.N sc hi q) = true from h)
      obtain ⟨h1, h2⟩ := and2 h12
      exact sl_pe (sndE a T hq X sc Wx x C h1) (sndO lo T hq X sc Wx p C h2) (sndO hi T hq X sc Wx q C h3)
  | .call ro f es d, T, hq, X, sc, Wx, e, C, h => by
    cases e <;> first | (exact absurd h Bool.false_ne_true) | skip
    rename_i fn xs kws pos
    cases fn <;> first | (exact absurd h Bool.false_ne_true) | skip
    rename_i x p
    cases kws with
    | cons _ _ => exact absurd h Bool.false_ne_true
    | nil =>
      obtain ⟨h123, h4⟩ := and2 (and2 (show (!T.hot && okG sc x && decide (T.nm[f]? = some (some x)) && xs.all nst && okEs T X.N sc es xs && Nat.ble d (T.nd f)) = true from h)).1
      have hd := Nat.le_of_ble_eq_true (and2 (show (!T.hot && okG sc x && decide (T.nm[f]? = some (some x)) && xs.all nst && okEs T X.N sc es xs && Nat.ble d (T.nd f)) = true from h)).2
      obtain ⟨h12, h3⟩ := and2 h123
      obtain ⟨h01, h2⟩ := and2 h12
      obtain ⟨h0, h1⟩ := and2 h01
      exact call_pe C (by simpa using h0) h1 (of_decide_eq_true h2) h3 hd (sndL es T hq X sc Wx xs C h3 h4) fun e ρ l => okNil h4 e ρ l
  | .bi b a, T, hq, X, sc, Wx, e, C, h => by
    cases e <;> first | (exfalso; cases b <;> exact absurd h Bool.false_ne_true) | skip
    rename_i fn xs kws pos
    cases fn <;> first | (exfalso; cases b <;> exact absurd h Bool.false_ne_true) | skip
    rename_i x p
    cases kws with
    | cons _ _ =>
      exfalso
      cases b <;> (rcases xs with _ | ⟨_, _ | ⟨y, _ | _⟩⟩ <;> first | exact absurd h Bool.false_ne_true | (cases y <;> exact absurd h Bool.false_ne_true))
    | nil =>
      match xs, h with
      | [], h => exfalso; cases b <;> exact absurd h Bool.false_ne_true
      | [e], h =>
        have h' : (okG sc x && decide (x = biName b) && notIsi b && nst e && okE T X.N sc a e) = true := by cases b <;> exact h
        obtain ⟨h1234, h5⟩ := and2 h'
        obtain ⟨h123, h4⟩ := and2 h1234
        obtain ⟨h12, h3⟩ := and2 h123
        obtain ⟨h1, h2⟩ := and2 h12
        exact bi_pe C h1 (of_decide_eq_true h2) (fun t e => by subst e; cases h3) h4 (sndE a T hq X sc Wx e C h5)
      | [e, y], h =>
        cases b <;> first | (exfalso; cases y <;> exact absurd h Bool.false_ne_true) | skip
        rename_i t _
        cases y <;> first | (exact absurd h Bool.false_ne_true) | skip
        rename_i y p2
        obtain ⟨h123456, h7⟩ := and2 (show (okG sc x && decide (x = "isinstance") && okG sc y && decide (y = Str.ofString (tyName t)) && notCls t && nst e && okE T X.N sc a e) = true from h)
        obtain ⟨h12345, h6⟩ := and2 h123456
        obtain ⟨h1234, h5⟩ := and2 h12345
        obtain ⟨h123, h4⟩ := and2 h1234
        obtain ⟨h12, h3⟩ := and2 h123
        obtain ⟨h1, h2⟩ := and2 h12
        exact isi_pe C h1 (of_decide_eq_true h2) h3 (of_decide_eq_true h4) (fun c e => by subst e; cases h5) h6 (sndE a T hq X sc Wx e C h7)
      | _ :: y :: _ :: _, h => exfalso; cases b <;> first | exact absurd h Bool.false_ne_true | (cases y <;> exact absurd h Bool.false_ne_true)
  | .sm m o es, T, hq, X, sc, Wx, e, C, h => by
    cases e <;> first | (exact absurd h Bool.false_ne_true) | skip
    rename_i fn xs kws q
    cases fn <;> first | (exact absurd h Bool.false_ne_true) | skip
    rename_i x f p
    cases kws with
    | cons _ _ => exact absurd h Bool.false_ne_true
    | nil =>
      obtain ⟨h123456, h7⟩ := and2 (show (decide (f = smName m) && nsup x && (p.endLine == q.line) && xs.all nst && okAr m xs.length && okE T X.N sc o x && okEs T X.N sc es xs) = true from h)
      obtain ⟨h12345, h6⟩ := and2 h123456
      obtain ⟨h1234, h5⟩ := and2 h12345
      obtain ⟨h123, h4⟩ := and2 h1234
      obtain ⟨h12, h3⟩ := and2 h123
      obtain ⟨h1, h2⟩ := and2 h12
      have e1 : f = smName m := of_decide_eq_true h1
      subst e1
      have ho := sndE o T hq X sc Wx x C h6
      have ha := sndL es T hq X sc Wx xs C h4 h7
      have hn := fun e ρ l => okNil (cf := cfA T k ak) h7 e ρ l
      cases m with
      | split => exact str_pe (by decide) PySem.F.slot_str_split PySem.F.type_str_split md_split h2 h3 h4 h5 ho ha hn
      | join => exact str_pe (by decide) PySem.F.slot_str_join PySem.F.type_str_join md_join h2 h3 h4 h5 ho ha hn
      | lower => exact str_pe (by decide) PySem.F.slot_str_lower PySem.F.type_str_lower md_lower h2 h3 h4 h5 ho ha hn
      | upper => exact str_pe (by decide) PySem.F.slot_str_upper PySem.F.type_str_upper md_upper h2 h3 h4 h5 ho ha hn
      | index => exact str_pe (by decide) PySem.F.slot_str_index PySem.F.type_str_index md_index h2 h3 h4 h5 ho ha hn
      | find => exact str_pe (by decide) PySem.F.slot_str_find PySem.F.type_str_find md_find h2 h3 h4 h5 ho ha hn
      | partition => exact str_pe (by decide) PySem.F.slot_str_partition PySem.F.type_str_partition md_partition h2 h3 h4 h5 ho ha hn
      | starts => exact str_pe (by decide) PySem.F.slot_str_startswith PySem.F.type_str_startswith md_starts h2 h3 h4 h5 ho ha hn
      | ends => exact str_pe (by decide) PySem.F.slot_str_endswith PySem.F.type_str_endswith md_ends h2 h3 h4 h5 ho ha hn
      | count => exact str_pe (by decide) PySem.F.slot_str_count PySem.F.type_str_count md_count h2 h3 h4 h5 ho ha hn
      | rstrip => exact str_pe (by decide) PySem.F.slot_str_rstrip PySem.F.type_str_rstrip md_rstrip h2 h3 h4 h5 ho ha hn
      | rpart => exact str_pe (by decide) PySem.F.slot_str_rpartition PySem.F.type_str_rpartition md_rpart h2 h3 h4 h5 ho ha hn
      | lindex =>
        match xs, h5, h4, ha with
        | [y], _, h4, ha => exact lm_pe (by decide) PySem.F.slot_list_index PySem.F.type_list_index (md_lindex (by have := C.un; omega)) h2 h3 (by simpa using h4) ho ha
        | [], h5, _, _ => exact absurd h5 Bool.false_ne_true
        | _ :: _ :: _, h5, _, _ => exact absurd (show (_ + 1 + 1 == 1) = true from h5) (by simp)
      | lcount =>
        match xs, h5, h4, ha with
        | [y], _, h4, ha => exact lm_pe (by decide) PySem.F.slot_list_count PySem.F.type_list_count (md_lcount (by have := C.un; omega)) h2 h3 (by simpa using h4) ho ha
        | [], h5, _, _ => exact absurd h5 Bool.false_ne_true
        | _ :: _ :: _, h5, _, _ => exact absurd (show (_ + 1 + 1 == 1) = true from h5) (by simp)
      | get =>
        match xs, h5, h4, ha with
        | y :: ys, h5, h4, ha => exact get_pe C h2 h3 h4 (by
            have h9 : ((y :: ys).length == 1 || (y :: ys).length == 2) = true := h5
            have h10 : (y :: ys).length = 1 ∨ (y :: ys).length = 2 := by simpa using h9
            rcases h10 with h10 | h10 <;> rw [h10] <;> rfl) ho ha
        | [], h5, _, _ => exact absurd h5 Bool.false_ne_true
      | update => exact absurd h5 Bool.false_ne_true
      | append =>
        match xs, h5, h4, ha with
        | [y], _, h4, ha => exact app_pe h2 h3 (by simpa using h4) ho ha
        | [], h5, _, _ => exact absurd h5 Bool.false_ne_true
        | _ :: _ :: _, h5, _, _ => exact absurd (show (_ + 1 + 1 == 1) = true from h5) (by simp)
  | .lc m tg kk ie cs e own, T, hq, X, sc, Wx, ex, C, h => by
    cases ex <;> first | (exact absurd h Bool.false_ne_true) | skip
    rename_i elt gs scope pos
    match gs, h with
    | [], h => exact absurd h Bool.false_ne_true
    | ⟨_, _, _, n⟩ :: _ :: _, h => (exfalso; simp [okE] at h)
    | [⟨tx, iter, ifs, n⟩], h =>
      have hn : n = 0 := by
        rcases Decidable.em (n = 0) with e | e
        · exact e
        · exfalso
          simp [okE, e] at h
      subst hn
      obtain ⟨h123456, h7⟩ := and2 (show (!T.hot && blkC X.N sc scope own && okTg X.N scope tg tx && (tgIs tg).all (fun i => (own.map (·.2)).contains i) && nset iter && okI T X.N sc kk ie iter && okTs T X.N (relS scope sc) cs ifs && okE T X.N (relS scope sc) e elt) = true from h)
      obtain ⟨h12345, h6⟩ := and2 h123456
      obtain ⟨h1234, h5⟩ := and2 h12345
      obtain ⟨h123, h4⟩ := and2 h1234
      obtain ⟨h12, h3⟩ := and2 h123
      obtain ⟨h01, h2⟩ := and2 h12
      obtain ⟨h0, h1⟩ := and2 h01
      have hh : T.hot = false := by simpa using h0
      have hb : BlkOk X.N sc scope own := blkOk_by h1
      have hb' : BlkOk X.N X.env.scope scope own := by rw [C.sc]; exact hb
      refine pe_mono (pe_lc (own := own) (C.calm hh) C.nd (sndI kk ie T hq X sc Wx tx iter C h5) hb'
        (fun s H B cl fp => tg_pg (X := X.blk s H scope (compEnvC scope cl B X.env) fp) (tg := tg) C.nd (C.calm hh) (owns_blk hb s H B cl fp) h2)
        (fun s H B cl fp => sndTs cs T hq (X.blk s H scope (compEnvC scope cl B X.env) fp) (relS scope sc) W0 ifs (C.blk hh s H scope B cl fp) h6)
        (fun s H B cl fp => sndE e T hq (X.blk s H scope (compEnvC scope cl B X.env) fp) (relS scope sc) W0 elt (C.blk hh s H scope B cl fp) h7) (fold_id h4)) fun σ H Q hq => lc_read (m := m) (fun i hi => ?_) hq
      have := List.all_eq_true.mp h3 i hi
      simpa using this
  | .dnew, T, hq, X, sc, Wx, e, C, h => by
    cases e <;> first | (exact absurd h Bool.false_ne_true) | skip
    rename_i ks vs pos
    match ks, vs, h with
    | [], [], h => exact dnew_pe C
    | [], _ :: _, h => exact absurd h Bool.false_ne_true
    | _ :: _, _, h => exact absurd h Bool.false_ne_true
  | .dnewF, T, hq, X, sc, Wx, e, C, h => by
    cases e <;> first | (exact absurd h Bool.false_ne_true) | skip
    rename_i ks vs pos
    match ks, vs, h with
    | [], [], h => exact dnewF_pe
    | [], _ :: _, h => exact absurd h Bool.false_ne_true
    | _ :: _, _, h => exact absurd h Bool.false_ne_true
  | .isx c a, T, hq, X, sc, Wx, e, C, h => by
    cases e <;> first | (exact absurd h Bool.false_ne_true) | skip
    rename_i fn xs kws pos
    cases fn <;> first | (exact absurd h Bool.false_ne_true) | skip
    rename_i x p
    match xs, kws, h with
    | [], _, h => exact absurd h Bool.false_ne_true
    | [_], _, h => exact absurd h Bool.false_ne_true
    | _ :: y :: _ :: _, _, h => cases y <;> exact absurd h Bool.false_ne_true
    | [e, y], _ :: _, h => cases y <;> exact absurd h Bool.false_ne_true
    | [e, y], [], h =>
      cases y <;> first | (exact absurd h Bool.false_ne_true) | skip
      rename_i y p2
      obtain ⟨h123456, h7⟩ := and2 (show (T.hot && okG sc x && decide (x = "isinstance") && okG sc y && decide (T.cn[c]? = some y) && nst e && okE T X.N sc a e) = true from h)
      obtain ⟨h12345, h6⟩ := and2 h123456
      obtain ⟨h1234, h5⟩ := and2 h12345
      obtain ⟨h123, h4⟩ := and2 h1234
      obtain ⟨h12, h3⟩ := and2 h123
      obtain ⟨h1, h2⟩ := and2 h12
      exact isx_pe C h1 h2 (of_decide_eq_true h3) h4 (of_decide_eq_true h5) h6 (sndE a T hq X sc Wx e C h7)
  | .tget y kvs a, T, hq, X, sc, Wx, e, C, h => by
    cases e <;> first | (exact absurd h Bool.false_ne_true) | skip
    rename_i fn xs kws pos
    cases fn <;> first | (exact absurd h Bool.false_ne_true) | skip
    rename_i o f p
    cases o <;> first | (exact absurd h Bool.false_ne_true) | skip
    rename_i x p0
    match xs, kws, h with
    | [], _, h => exact absurd h Bool.false_ne_true
    | _ :: _ :: _, _, h => exact absurd h Bool.false_ne_true
    | [_], _ :: _, h => exact absurd h Bool.false_ne_true
    | [e], [], h =>
      obtain ⟨h123456, h7⟩ := and2 (show (decide (y = x) && okG sc x && okTb (T.tb x) kvs && decide (f = "get") && (p.endLine == pos.line) && nst e && okE T X.N sc a e) = true from h)
      obtain ⟨h12345, h6⟩ := and2 h123456
      obtain ⟨h1234, h5⟩ := and2 h12345
      obtain ⟨h123, h4⟩ := and2 h1234
      obtain ⟨h12, h3⟩ := and2 h123
      obtain ⟨h1, h2⟩ := and2 h12
      have hf := of_decide_eq_true h4
      subst hf
      exact tget_pe C h2 (okTb_ok h3) h5 h6 (sndE a T hq X sc Wx e C h7)
  | .tget2 y kvs a b, T, hq, X, sc, Wx, e, C, h => by
    cases e <;> first | (exact absurd h Bool.false_ne_true) | skip
    rename_i fn xs kws pos
    cases fn <;> first | (exact absurd h Bool.false_ne_true) | skip
    rename_i o f p
    cases o <;> first | (exact absurd h Bool.false_ne_true) | skip
    rename_i x p0
    match xs, kws, h with
    | [], _, h => exact absurd h Bool.false_ne_true
    | [_], _, h => exact absurd h Bool.false_ne_true
    | _ :: _ :: _ :: _, _, h => exact absurd h Bool.false_ne_true
    | [_, _], _ :: _, h => exact absurd h Bool.false_ne_true
    | [e, e2], [], h =>
      obtain ⟨h12345678, h9⟩ := and2 (show (decide (y = x) && okG sc x && okTb (T.tb x) kvs && decide (f = "get") && (p.endLine == pos.line) && nst e && nst e2 && okE T X.N sc a e && okE T X.N sc b e2) = true from h)
      obtain ⟨h1234567, h8⟩ := and2 h12345678
      obtain ⟨h123456, h7⟩ := and2 h1234567
      obtain ⟨h12345, h6⟩ := and2 h123456
      obtain ⟨h1234, h5⟩ := and2 h12345
      obtain ⟨h123, h4⟩ := and2 h1234
      obtain ⟨h12, h3⟩ := and2 h123
      obtain ⟨h1, h2⟩ := and2 h12
      have hf := of_decide_eq_true h4
      subst hf
      exact tget2_pe C h2 (okTb_ok h3) h5 h6 h7 (sndE a T hq X sc Wx e C h8) (sndE b T hq X sc Wx e2 C h9)
  | .dlget kvs a b, T, hq, X, sc, Wx, e, C, h => by
    cases e <;> first | (exact absurd h Bool.false_ne_true) | skip
    rename_i fn xs kws pos
    cases fn <;> first | (exact absurd h Bool.false_ne_true) | skip
    rename_i o f p
    cases o <;> first | (exact absurd h Bool.false_ne_true) | skip
    rename_i ks vs p0
    match xs, kws, h with
    | [], _, h => exact absurd h Bool.false_ne_true
    | [_], _, h => exact absurd h Bool.false_ne_true
    | _ :: _ :: _ :: _, _, h => exact absurd h Bool.false_ne_true
    | [_, _], _ :: _, h => exact absurd h Bool.false_ne_true
    | [e, e2], [], h =>
      obtain ⟨h12345678, h9⟩ := and2 (show (okDl kvs ks vs && decide (kvs ≠ []) && Nat.ble kvs.length 15 && decide (f = "get") && (p.endLine == pos.line) && nst e && nst e2 && okE T X.N sc a e && okE T X.N sc b e2) = true from h)
      obtain ⟨h1234567, h8⟩ := and2 h12345678
      obtain ⟨h123456, h7⟩ := and2 h1234567
      obtain ⟨h12345, h6⟩ := and2 h123456
      obtain ⟨h1234, h5⟩ := and2 h12345
      obtain ⟨h123, h4⟩ := and2 h1234
      obtain ⟨h12, h3⟩ := and2 h123
      obtain ⟨h1, h2⟩ := and2 h12
      have hf := of_decide_eq_true h4
      subst hf
      exact dlget_pe C h1 (of_decide_eq_true h2) (Nat.le_of_ble_eq_true h3) h5 h6 h7 (sndE a T hq X sc Wx e C h8) (sndE b T hq X sc Wx e2 C h9)
  | .dlget1 kvs a, T, hq, X, sc, Wx, e, C, h => by
    cases e <;> first | (exact absurd h Bool.false_ne_true) | skip
    rename_i fn xs kws pos
    cases fn <;> first | (exact absurd h Bool.false_ne_true) | skip
    rename_i o f p
    cases o <;> first | (exact absurd h Bool.false_ne_true) | skip
    rename_i ks vs p0
    match xs, kws, h with
    | [], _, h => exact absurd h Bool.false_ne_true
    | _ :: _ :: _, _, h => exact absurd h Bool.false_ne_true
    | [_], _ :: _, h => exact absurd h Bool.false_ne_true
    | [e], [], h =>
      obtain ⟨h123456, h7⟩ := and2 (show (okDl kvs ks vs && decide (kvs ≠ []) && Nat.ble kvs.length 15 && decide (f = "get") && (p.endLine == pos.line) && nst e && okE T X.N sc a e) = true from h)
      obtain ⟨h12345, h6⟩ := and2 h123456
      obtain ⟨h1234, h5⟩ := and2 h12345
      obtain ⟨h123, h4⟩ := and2 h1234
      obtain ⟨h12, h3⟩ := and2 h123
      obtain ⟨h1, h2⟩ := and2 h12
      have hf := of_decide_eq_true h4
      subst hf
      exact dlget1_pe C h1 (of_decide_eq_true h2) (Nat.le_of_ble_eq_true h3) h5 h6 (sndE a T hq X sc Wx e C h7)
  | .repl y z o, T, hq, X, sc, Wx, e, C, h => by
    exfalso
    cases e <;> exact absurd h Bool.false_ne_true
  | .tix y kvs a, T, hq, X, sc, Wx, e, C, h => by
    cases e <;> first | (exact absurd h Bool.false_ne_true) | skip
    rename_i o e pos
    cases o <;> first | (exact absurd h Bool.false_ne_true) | skip
    rename_i x p0
    obtain ⟨h1234, h5⟩ := and2 (show (decide (y = x) && okG sc x && okTb (T.tb x) kvs && nsl e && okE T X.N sc a e) = true from h)
    obtain ⟨h123, h4⟩ := and2 h1234
    obtain ⟨h12, h3⟩ := and2 h123
    obtain ⟨h1, h2⟩ := and2 h12
    exact tix_pe C h2 (okTb_ok h3) h4 (sndE a T hq X sc Wx e C h5)
  | .act i, T, hq, X, sc, Wx, e, C, h => by
    cases e <;> first | (exact absurd h Bool.false_ne_true) | skip
    rename_i fn xs kws pos
    cases fn <;> first | (exact absurd h Bool.false_ne_true) | skip
    exact ⟨fun pins s σ H Q I ⟨F, ms, ρ, l, S, E, h⟩ => h.elim⟩
  | .ask g body, T, hq, X, sc, Wx, e, C, h => by
    cases e <;> first | (exact absurd h Bool.false_ne_true) | skip
    rename_i fn xs kws pos
    cases fn <;> first | (exact absurd h Bool.false_ne_true) | skip
    rename_i x p
    match xs, kws, h with
    | [], _, h => exact absurd h Bool.false_ne_true
    | y :: _ :: _, _, h => cases y <;> exact absurd h Bool.false_ne_true
    | [y], _ :: _, h => cases y <;> exact absurd h Bool.false_ne_true
    | [y], [], h =>
      cases y <;> first | (exact absurd h Bool.false_ne_true) | skip
      rename_i ps lb scope lpos
      obtain ⟨h12345, h6⟩ := and2 (show (T.ask && okG sc x && decide (T.nm[g]? = some (some x)) && LamX.lamSB sc scope && noPs ps && okE T.plain X.N scope body lb) = true from h)
      obtain ⟨h1234, h5⟩ := and2 h12345
      obtain ⟨h123, h4⟩ := and2 h1234
      obtain ⟨h12, h3⟩ := and2 h123
      obtain ⟨h1, h2⟩ := and2 h12
      exact hq h1 g body X sc Wx x p lpos pos ps lb scope C h2 (of_decide_eq_true h3) h4 h5 fun Y Wy hY CY => sndE body T.plain (fun z => Bool.noConfusion (show false = true from z)) Y scope Wy lb CY (by rw [hY]; exact h6)
  | .frz a, T, hq, X, sc, Wx, e, C, h => by
    have h' : okE T X.N sc a e = true := h
    refine pe_mono (sndE a T hq X sc Wx e C h') fun σ H Q ⟨F, ms, ρ, l, S, E, h⟩ => ⟨F, ms, ρ, l, S, E, (Fin.bind h).mono fun w l1 F1 ms1 H1 t1 S1 z v p => ?_⟩
    cases w with
    | d x => exact Fin.here z S1 v p
    | r n =>
      obtain ⟨b, eb, rfl⟩ := p
      unfold frzW at z
      cases q : l1[n]? with
      | none => simp only [q] at z; exact z.elim
      | some ob =>
        cases ob with
        | dct _ => simp only [q] at z; exact z.elim
        | ins _ _ => simp only [q] at z; exact z.elim
        | tup _ => simp only [q] at z; exact z.elim
        | dead => simp only [q] at z; exact z.elim
        | lst ws =>
          simp only [q] at z
          cases q2 : unW ws with
          | none => rw [q2] at z; exact z.elim
          | some ds =>
            rw [q2] at z
            simp only [ret_some, Res.bind_ok] at z
            obtain ⟨hF, vs, hH, hl⟩ := S1.at_ n b _ eb q
            refine z (upg F1 b (.lst vs)) ms1 H1 (Stp.frz hF (List.mem_of_getElem? eb)) (S1.frz eb hF hH) _ ?_
            show Rep _ _ (.lst ds)
            unfold Rep
            exact ⟨b, vs, rfl, upg_same, (hl.un q2).mono (fun a o h => by rw [upg_ne (ne_of_none h hF)]; exact h) _ _⟩
  | .no, T, hq, X, sc, Wx, e, C, h => ⟨fun pins s σ H Q I ⟨F, ms, ρ, l, S, E, h⟩ => h.elim⟩
  | .len a, T, hq, X, sc, Wx, e, C, h => by
    cases e <;> first | (exact absurd h Bool.false_ne_true) | skip
    rename_i fn xs kws pos
    cases fn <;> first | (exact absurd h Bool.false_ne_true) | skip
    rename_i x p
    match xs, kws, h with
    | [], _, h => exact absurd h Bool.false_ne_true
    | _ :: _ :: _, _, h => exact absurd h Bool.false_ne_true
    | [_], _ :: _, h => exact absurd h Bool.false_ne_true
    | [e], [], h =>
      obtain ⟨h123, h4⟩ := and2 (show (okG sc x && decide (x = "len") && nst e && okE T X.N sc a e) = true from h)
      obtain ⟨h12, h3⟩ := and2 h123
      obtain ⟨h1, h2⟩ := and2 h12
      exact len_pe C h1 (of_decide_eq_true h2) h3 (sndE a T hq X sc Wx e C h4)
  | .max a b, T, hq, X, sc, Wx, e, C, h => by
    cases e <;> first | (exact absurd h Bool.false_ne_true) | skip
    rename_i fn xs kws pos
    cases fn <;> first | (exact absurd h Bool.false_ne_true) | skip
    rename_i x p
    match xs, kws, h with
    | [], _, h => exact absurd h Bool.false_ne_true
    | [_], _, h => exact absurd h Bool.false_ne_true
    | _ :: _ :: _ :: _, _, h => exact absurd h Bool.false_ne_true
    | [_, _], _ :: _, h => exact absurd h Bool.false_ne_true
    | [e, e2], [], h =>
      obtain ⟨h1, h7⟩ := and2 (show (!T.hot && okG sc x && decide (x = "max") && nst e && nst e2 && okE T X.N sc a e && okE T X.N sc b e2) = true from h)
      obtain ⟨h1, h6⟩ := and2 h1
      obtain ⟨h1, h5⟩ := and2 h1
      obtain ⟨h1, h4⟩ := and2 h1
      obtain ⟨h1, h3⟩ := and2 h1
      obtain ⟨h1, h2⟩ := and2 h1
      exact max_pe C (by simpa using h1) h2 (of_decide_eq_true h3) h4 h5 (sndE a T hq X sc Wx e C h6) (sndE b T hq X sc Wx e2 C h7)
  | .thw a, T, hq, X, sc, Wx, e, C, h => by
    cases e <;> first | (exact absurd h Bool.false_ne_true) | skip
    rename_i fn xs kws pos
    cases fn <;> first | (exact absurd h Bool.false_ne_true) | skip
    rename_i x p
    match xs, kws, h with
    | [], _, h => exact absurd h Bool.false_ne_true
    | _ :: _ :: _, _, h => exact absurd h Bool.false_ne_true
    | [_], _ :: _, h => exact absurd h Bool.false_ne_true
    | [e], [], h =>
      obtain ⟨h123, h4⟩ := and2 (show (okG sc x && decide (x = "list") && nst e && okE T X.N sc a e) = true from h)
      obtain ⟨h12, h3⟩ := and2 h123
      obtain ⟨h1, h2⟩ := and2 h12
      exact thw_pe C h1 (of_decide_eq_true h2) h3 (sndE a T hq X sc Wx e C h4)
  | .srt a, T, hq, X, sc, Wx, e, C, h => by
    exfalso
    cases e <;> exact absurd h Bool.false_ne_true
  | .kys a, T, hq, X, sc, Wx, e, C, h => by
    exfalso
    cases e <;> exact absurd h Bool.false_ne_true
  | .fld f a, T, hq, X, sc, Wx, e, C, h => by
    cases e <;> first | (exact absurd h Bool.false_ne_true) | skip
    rename_i x y pos
    obtain ⟨h12, h3⟩ := and2 (show (decide (T.fn[f]? = some y) && nsup x && okE T X.N sc a x) = true from h)
    obtain ⟨h1, h2⟩ := and2 h12
    exact fld_pe C (of_decide_eq_true h1) h2 (sndE a T hq X sc Wx x C h3)
  | .meth ro m o es d, T, hq, X, sc, Wx, e, C, h => by
    cases e <;> first | (exact absurd h Bool.false_ne_true) | skip
    rename_i fn xs kws pos
    cases fn <;> first | (exact absurd h Bool.false_ne_true) | skip
    rename_i x y p
    cases kws with
    | cons _ _ => exact absurd h Bool.false_ne_true
    | nil =>
      obtain ⟨h12345678, h9⟩ := and2 (show (!T.hot && decide (T.mn[m]? = some y) && nsup x && xs.all nst && Nat.blt xs.length 29 && (p.endLine == pos.line) && Nat.ble d (T.md m) && okE T X.N sc o x && okEs T X.N sc es xs) = true from h)
      obtain ⟨h1234567, h8⟩ := and2 h12345678
      obtain ⟨h123456, h7⟩ := and2 h1234567
      obtain ⟨h12345, h6⟩ := and2 h123456
      obtain ⟨h1234, h5⟩ := and2 h12345
      obtain ⟨h123, h4⟩ := and2 h1234
      obtain ⟨h12, h3⟩ := and2 h123
      obtain ⟨h1, h2⟩ := and2 h12
      exact meth_pe C (by simpa using h1) (of_decide_eq_true h2) h3 h4 h5 h6 (Nat.le_of_ble_eq_true h7) (sndE o T hq X sc Wx x C h8) (sndL es T hq X sc Wx xs C h4 h9) fun e ρ l => okNil h9 e ρ l
  | .make c es, T, hq, X, sc, Wx, e, C, h => by
    cases e <;> first | (exact absurd h Bool.false_ne_true) | skip
    rename_i fn xs kws pos
    cases fn <;> first | (exact absurd h Bool.false_ne_true) | skip
    rename_i x p
    cases kws with
    | cons _ _ => exact absurd h Bool.false_ne_true
    | nil =>
      obtain ⟨h12345, h6⟩ := and2 (show (!T.hot && okG sc x && decide (T.kn[c]? = some x) && (T.pt.ini c).isSome && xs.all nst && okEs T X.N sc es xs) = true from h)
      obtain ⟨h1234, h5⟩ := and2 h12345
      obtain ⟨h123, h4⟩ := and2 h1234
      obtain ⟨h12, h3⟩ := and2 h123
      obtain ⟨h1, h2⟩ := and2 h12
      obtain ⟨g, hg⟩ := Option.isSome_iff_exists.mp h4
      exact make_pe C (by simpa using h1) h2 (of_decide_eq_true h3) hg h5 (sndL es T hq X sc Wx xs C h5 h6) fun e ρ l => okNil h6 e ρ l
theorem sndT : ∀ (ir : Te) (T : Tab) (hq : T.ask = true → AskOk T k ak) (X : Cx) (sc : Scope) (Wx : WX) (e : Expr), Cxt T k X sc Wx → okT T X.N sc ir e = true → PT X e (tT T Wx (evT (cfA T k ak) ir))
  | .e a, T, hq, X, sc, Wx, e, C, h => by
    obtain ⟨h1 | h1, h2⟩ := okT_e h
    · exact plain_pt h1 (sndE a T hq X sc Wx e C h2)
    · match a, h1, h2 with
      | .op o a b, h1, h2 =>
        obtain ⟨l, p, r, pos, rfl, h1, h2, h3, h4⟩ := cmp_of h1 h2
        exact cmp_pt C h1 h4 (sndE a T hq X sc Wx l C h2) (sndE b T hq X sc Wx r C h3)
      | .chain o1 o2 a b c, h1, h2 =>
        obtain ⟨l, p, q, r, t, pos, rfl, h1, h2, h3, h4, h5, h6⟩ := chain_of h2
        exact chain_pt C h1 h2 h3 (sndE a T hq X sc Wx l C h4) (sndE b T hq X sc Wx r C h5) (sndE c T hq X sc Wx t C h6)
  | .and a b, T, hq, X, sc, Wx, e, C, h => by
    cases e <;> first | (exact absurd h Bool.false_ne_true) | skip
    rename_i op xs pos
    cases op <;> first | (exact absurd h Bool.false_ne_true) | skip
    match xs, h with
    | [], h => exact absurd h Bool.false_ne_true
    | [_], h => exact absurd h Bool.false_ne_true
    | [x, y], h =>
      obtain ⟨h1, h2⟩ := and2 (show (okT T X.N sc a x && okT T X.N sc b y) = true from h)
      exact (and_pw (sndT a T hq X sc Wx x C h1) (fun wh => pw_and1 (sndT b T hq X sc Wx y C h2))).pt
    | x :: y :: z :: t, h =>
      obtain ⟨h1, h2⟩ := and2 (show (okT T X.N sc a x && okT T X.N sc b (.BoolOp .And (y :: z :: t) pos)) = true from h)
      exact (and_pw (sndT a T hq X sc Wx x C h1) (fun wh => bool_pw (sndT b T hq X sc Wx (.BoolOp .And (y :: z :: t) pos) C h2))).pt
  | .or a b, T, hq, X, sc, Wx, e, C, h => by
    cases e <;> first | (exact absurd h Bool.false_ne_true) | skip
    rename_i op xs pos
    cases op <;> first | (exact absurd h Bool.false_ne_true) | skip
    match xs, h with
    | [], h => exact absurd h Bool.false_ne_true
    | [_], h => exact absurd h Bool.false_ne_true
    | [x, y], h =>
      obtain ⟨h1, h2⟩ := and2 (show (okT T X.N sc a x && okT T X.N sc b y) = true from h)
      exact (or_pw (sndT a T hq X sc Wx x C h1) (fun wh => pw_or1 (sndT b T hq X sc Wx y C h2))).pt
    | x :: y :: z :: t, h =>
      obtain ⟨h1, h2⟩ := and2 (show (okT T X.N sc a x && okT T X.N sc b (.BoolOp .Or (y :: z :: t) pos)) = true from h)
      exact (or_pw (sndT a T hq X sc Wx x C h1) (fun wh => bool_pw (sndT b T hq X sc Wx (.BoolOp .Or (y :: z :: t) pos) C h2))).pt
  | .not a, T, hq, X, sc, Wx, e, C, h => by
    cases e <;> first | (exact absurd h Bool.false_ne_true) | skip
    rename_i op x pos
    cases op <;> first | (exact absurd h Bool.false_ne_true) | skip
    refine pt_mono (pt_not (sndT a T hq X sc Wx x C h)) fun σ H Q ⟨F, ms, ρ, l, S, E, h⟩ => ⟨F, ms, ρ, l, S, E, (Fin.bind h).mono fun b l1 F1 ms1 H1 t1 S1 z => Fin.here z S1⟩
theorem sndL : ∀ (irs : Exs) (T : Tab) (hq : T.ask = true → AskOk T k ak) (X : Cx) (sc : Scope) (Wx : WX) (es : List Expr), Cxt T k X sc Wx → es.all nst = true → okEs T X.N sc irs es = true → PA X es (tA T Wx (evL (cfA T k ak) irs))
  | .nil, T, hq, X, sc, Wx, es, C, hn, h => by
    cases es with
    | cons _ _ => exact absurd h Bool.false_ne_true
    | nil => exact pa_mono pa_nil fun σ H Q ⟨F, ms, ρ, l, S, E, h⟩ => Fin.here h S [] trivial
  | .cons e r, T, hq, X, sc, Wx, es, C, hn, h => by
    cases es with
    | nil => exact absurd h Bool.false_ne_true
    | cons x xs =>
      obtain ⟨h1, h2⟩ := and2 (show (okE T X.N sc e x && okEs T X.N sc r xs) = true from h)
      have hn' : nst x = true ∧ xs.all nst = true := by simpa using hn
      refine pa_mono (pa_cons (sndE e T hq X sc Wx x C h1) (sndL r T hq X sc Wx xs C hn'.2 h2) (star_cons hn'.1)) fun σ H Q ⟨F, ms, ρ, l, S, E, h⟩ => ⟨F, ms, ρ, l, S, E, (Fin.bind h).mono fun w l1 F1 ms1 H1 t1 S1 z v p =>
        ⟨F1, ms1, ρ, l1, S1, E.stp t1, (Fin.bind z).mono fun ws l2 F2 ms2 H2 t2 S2 z2 vs ps => Fin.here z2 S2 (v :: vs) ⟨p.stp t2, ps⟩⟩⟩
theorem sndTs : ∀ (irs : Tes) (T : Tab) (hq : T.ask = true → AskOk T k ak) (X : Cx) (sc : Scope) (Wx : WX) (es : List Expr), Cxt T k X sc Wx → okTs T X.N sc irs es = true → PTs X es (tT T Wx (evC (cfA T k ak) irs))
  | .nil, T, hq, X, sc, Wx, es, C, h => by
    cases es with
    | cons _ _ => exact absurd h Bool.false_ne_true
    | nil => exact pts_mono pts_nil fun σ H Q ⟨F, ms, ρ, l, S, E, h⟩ => Fin.here h S
  | .cons e .nil, T, hq, X, sc, Wx, es, C, h => by
    match es, h with
    | [], h => exact absurd h Bool.false_ne_true
    | [x], h =>
      refine pts_mono (pts_one (sndT e T hq X sc Wx x C h)) fun σ H Q ⟨F, ms, ρ, l, S, E, h⟩ => ⟨F, ms, ρ, l, S, E, (Fin.bind h).mono fun b l1 F1 ms1 H1 t1 S1 z => ?_⟩
      cases b with
      | true => exact Fin.here z S1
      | false => exact Fin.here z S1
    | _ :: _ :: _, h => exact absurd h Bool.false_ne_true
  | .cons e (.cons _ _), T, hq, X, sc, Wx, es, C, h => by
    match es, h with
    | [], h => exact absurd h Bool.false_ne_true
    | [x], h => exact absurd h Bool.false_ne_true
    | _ :: _ :: _, h => exact absurd h Bool.false_ne_true
theorem sndO : ∀ (ir : Eo) (T : Tab) (hq : T.ask = true → AskOk T k ak) (X : Cx) (sc : Scope) (Wx : WX) (e : Option Expr), Cxt T k X sc Wx → okO T X.N sc ir e = true → PO X e (tO T Wx (evO (cfA T k ak) ir))
  | .no, T, hq, X, sc, Wx, e, C, h => by
    cases e with
    | some _ => exact absurd h Bool.false_ne_true
    | none => exact po_no
  | .so a, T, hq, X, sc, Wx, e, C, h => by
    cases e with
    | none => exact absurd h Bool.false_ne_true
    | some x => exact po_so (sndE a T hq X sc Wx x C h)
theorem sndI : ∀ (kk : Ik) (ie : Exs) (T : Tab) (hq : T.ask = true → AskOk T k ak) (X : Cx) (sc : Scope) (Wx : WX) (tx e : Expr), Cxt T k X sc Wx → okI T X.N sc kk ie e = true → PI X tx e (iOf T Wx kk (evL (cfA T k ak) ie))
  | kk, .nil, T, hq, X, sc, Wx, tx, e, C, h => by cases kk <;> exact absurd h Bool.false_ne_true
  | kk, .cons a .nil, T, hq, X, sc, Wx, tx, e, C, h => by
    cases kk with
    | lst => exact lst_pi (sndE a T hq X sc Wx e C h)
    | tup => exact tup_pi (sndE a T hq X sc Wx e C h)
    | str => exact str_pi (sndE a T hq X sc Wx e C h)
    | rng1 =>
      obtain ⟨x, p, y, pos, rfl, h1, h2, h3, h4⟩ := okI_r1 h
      exact rng1_pi C h1 h2 h3 (sndE a T hq X sc Wx y C h4)
    | rng2 => exact absurd h Bool.false_ne_true
    | enum => exact absurd h Bool.false_ne_true
    | zip => exact absurd h Bool.false_ne_true
    | items => exact absurd h Bool.false_ne_true
    | keys => exact absurd h Bool.false_ne_true
  | kk, .cons a (.cons b r), T, hq, X, sc, Wx, tx, e, C, h => by
    cases kk <;> first | (exact absurd h Bool.false_ne_true) | skip
    cases r with
    | cons _ _ => exact absurd h Bool.false_ne_true
    | nil =>
      obtain ⟨x, p, y, z, pos, rfl, h1, h2, h3, h4, h5, h6⟩ := okI_r2 h
      exact rng2_pi C h1 h2 h3 h4 (sndE a T hq X sc Wx y C h5) (sndE b T hq X sc Wx z C h6)
end
end
end Vx

set_option maxHeartbeats 4000000
namespace Vx
open PySem PySem.Spec PyProof.Rows L2
variable [tb : Tbs] [sp : Spv]
section
variable {T : Tab} {k : Nat} {ak : Nat → Res W → Res W}
theorem repl_sx {s y z : Tx} (h : y ≠ []) : Txt.replace (sx s) (sx y) (sx z) = sx (PySem.StrLaws.replL y z s) := by
  apply TL.ext_tl
  have h1 : 1 ≤ (sx y).length := by
    rw [len_sx]
    exact List.length_pos_iff.mpr h
  have := PySem.StrLaws.replace_list (x := sx s) (y := sx y) (z := sx z) h1
  exact this
theorem okR_of {N : List Str} {sc : Scope} {y z : Tx} {o : Ex} {e : Expr} (h : okR T N sc (.repl y z o) e = true) : ∃ x p j0 c0 j1 c1 q, e = .Call (.Attribute x "replace" p) [.Constant (.str (sx y)) j0 c0, .Constant (.str (sx z)) j1 c1] [] q ∧ nsup x = true ∧ (p.endLine == q.line) = true ∧ y ≠ z ∧ (okE T N sc o x = true ∨ okR T N sc o x = true) := by
  cases e <;> first | (exact absurd h Bool.false_ne_true) | skip
  rename_i fn xs kws q
  cases fn <;> first | (exact absurd h Bool.false_ne_true) | skip
  rename_i x f p
  match xs, kws, h with
  | [], _, h => exact absurd h Bool.false_ne_true
  | [a], _, h => exfalso; cases a <;> first | (exact absurd h Bool.false_ne_true) | (rename_i c _ _; cases c <;> exact absurd h Bool.false_ne_true)
  | a :: b :: _ :: _, _, h => exfalso; cases a <;> first | (exact absurd h Bool.false_ne_true) | (rename_i c _ _; cases c <;> first | (exact absurd h Bool.false_ne_true) | (cases b <;> first | (exact absurd h Bool.false_ne_true) | (rename_i c _ _; cases c <;> exact absurd h Bool.false_ne_true)))
  | [a, b], _ :: _, h => exfalso; cases a <;> first | (exact absurd h Bool.false_ne_true) | (rename_i c _ _; cases c <;> first | (exact absurd h Bool.false_ne_true) | (cases b <;> first | (exact absurd h Bool.false_ne_true) | (rename_i c _ _; cases c <;> exact absurd h Bool.false_ne_true)))
  | [a, b], [], h =>
    cases a <;> first | (exact absurd h Bool.false_ne_true) | skip
    rename_i ca j0 c0
    cases ca <;> first | (exact absurd h Bool.false_ne_true) | skip
    rename_i ya
    cases b <;> first | (exact absurd h Bool.false_ne_true) | skip
    rename_i cb j1 c1
    cases cb <;> first | (exact absurd h Bool.false_ne_true) | skip
    rename_i za
    obtain ⟨h1, h7⟩ := and2 (show (decide (f = "replace") && nsup x && (p.endLine == q.line) && decide (ya = sx y) && decide (za = sx z) && decide (y ≠ z) && (okE T N sc o x || okR T N sc o x)) = true from h)
    obtain ⟨h1, h6⟩ := and2 h1
    obtain ⟨h1, h5⟩ := and2 h1
    obtain ⟨h1, h4⟩ := and2 h1
    obtain ⟨h1, h3⟩ := and2 h1
    obtain ⟨h1, h2⟩ := and2 h1
    have e1 := of_decide_eq_true h1
    have e4 := of_decide_eq_true h4
    have e5 := of_decide_eq_true h5
    subst e1 e4 e5
    exact ⟨x, p, j0, c0, j1, c1, q, rfl, h2, h3, of_decide_eq_true h6, Bool.or_eq_true_iff.mp h7⟩
theorem repl_pet {X : Cx} {Wx : WX} {y z : Tx} {x : Expr} {j0 j1 : Nat} {c0 c1 p q : Pos} {fa : Env → Loc → Res W} (h2 : nsup x = true) (h3 : (p.endLine == q.line) = true) (h6 : y ≠ z) (ho : PET X x (tE T Wx fa)) :
    PET X (.Call (.Attribute x "replace" p) [.Constant (.str (sx y)) j0 c0, .Constant (.str (sx z)) j1 c1] [] q) (tE T Wx fun ρ l => (fa ρ l).bind fun x l => ret (replW y z x) l) := by
  have key := CwR.pet_replT (apos := p) (pos := q) (j := j0) (k := j1) (c0 := c0) (c1 := c1) (y := sx y) (z := sx z) ho (by rw [beq_eq_false_iff_ne]; exact fun w => h6 (sx_inj w)) rfl (base_id h2) h3
  intro pins s σ H Q ht I ⟨F, ms, ρ, l, S, E, h⟩
  refine key pins s σ H Q ht I ⟨F, ms, ρ, l, S, E, (Fin.bind h).mono fun w l1 F1 ms1 H1 t1 S1 z1 v pv => ?_⟩
  obtain ⟨wr, e, h1⟩ := Fin.ret z1
  unfold replW at e
  cases w with
  | r n => cases e
  | d dd =>
    cases dd <;> first | (cases e; done) | skip
    rename_i st
    cases (show v = V.str (sx st) from pv)
    dsimp only at e
    split at e
    · rename_i hz
      cases e
      refine ⟨sx st, rfl, by rw [len_sx, len_sx]; exact hz.2.2, Fin.here h1 S1 _ ?_⟩
      rw [repl_sx hz.1]
      rfl
    · cases e
theorem sndR (hq : T.ask = true → AskOk T k ak) (X : Cx) (sc : Scope) (Wx : WX) (C : Cxt T k X sc Wx) : ∀ (n : Nat) (ir : Ex) (e : Expr), sizeOf ir ≤ n → okR T X.N sc ir e = true → PET X e (tE T Wx (evE (cfA T k ak) ir))
  | 0, ir, e, hn, h => by cases ir <;> simp at hn
  | n + 1, ir, e, hn, h => by
    match ir, h with
    | .repl y z o, h =>
      obtain ⟨x, p, j0, c0, j1, c1, q, rfl, h2, h3, h6, h7⟩ := okR_of h
      refine repl_pet (fa := evE (cfA T k ak) o) h2 h3 h6 ?_
      rcases h7 with h | h
      · exact CwR.PET.of (sndE o T hq X sc Wx x C h)
      · exact sndR hq X sc Wx C n o x (by simp at hn; omega) h
end
end Vx

set_option maxHeartbeats 4000000
/-! ### soundness: statements -/
namespace Vx
open PySem PySem.Spec PyProof.Rows L2
variable [tb : Tbs] [sp : Spv]

/-- what follows a statement's run -/
def FinO (T : Tab) (Wx : WX) (F : Gh) (ms : List Addr) (H : Hp) (o : Out) (D : Ends) : Prop :=
  match o with
  | .nx ρ l => ∀ (F' : Gh) (ms' : List Addr) (H' : Hp) (σ : L2.St), Stp F ms H F' ms' H' → SRel F' ms' l H' → EnvR F' ms' ρ σ → D.nx σ H'
  | .bk ρ l => ∀ (F' : Gh) (ms' : List Addr) (H' : Hp) (σ : L2.St), Stp F ms H F' ms' H' → SRel F' ms' l H' → EnvR F' ms' ρ σ → D.bk σ H'
  | .ct ρ l => ∀ (F' : Gh) (ms' : List Addr) (H' : Hp) (σ : L2.St), Stp F ms H F' ms' H' → SRel F' ms' l H' → EnvR F' ms' ρ σ → D.ct σ H'
  | .rt w l => ∀ (F' : Gh) (ms' : List Addr) (H' : Hp) (v : V), Stp F ms H F' ms' H' → SRel F' ms' l H' → Rp F' ms' v w → D.rt v H'
  | .exc c p ρ l => p = .non → ∀ (F' : Gh) (ms' : List Addr) (H' : Hp) (σ : L2.St), Stp F ms H F' ms' H' → SRel F' ms' l H' → EnvR F' ms' ρ σ → Wx (.ref (T.ca c)) none σ H'
  | .bad => False
section
variable {α : Type} {T : Tab} {Wx : WX} {F F1 : Gh} {ms ms1 : List Addr} {H H1 : Hp} {D : Ends}
theorem FinO.shift {o : Out} (t : Stp F ms H F1 ms1 H1) (h : FinO T Wx F ms H o D) : FinO T Wx F1 ms1 H1 o D := by
  cases o with
  | nx ρ l => exact fun F' ms' H' σ t' S E => h F' ms' H' σ (t.trans t') S E
  | bk ρ l => exact fun F' ms' H' σ t' S E => h F' ms' H' σ (t.trans t') S E
  | ct ρ l => exact fun F' ms' H' σ t' S E => h F' ms' H' σ (t.trans t') S E
  | rt w l => exact fun F' ms' H' v t' S E => h F' ms' H' v (t.trans t') S E
  | exc c p ρ l => exact fun e F' ms' H' σ t' S E => h e F' ms' H' σ (t.trans t') S E
  | bad => exact h
theorem FinO.out {r : Res α} {ρ : Env} {σ : L2.St} {f : α → Loc → Out} (E : EnvR F ms ρ σ) (h : FinO T Wx F ms H (r.out ρ f) D) :
    Fin T (fun c d H' => Wx c d σ H') F ms H r (fun a l F' ms' H' => FinO T Wx F' ms' H' (f a l) D) := by
  cases r with
  | ok a l => exact fun F' ms' H' t S => FinO.shift (o := f a l) t h
  | exc c p l => exact fun e F' ms' H' t S => h e F' ms' H' σ t S (E.stp t)
  | bad => exact h
end
def sOf (T : Tab) (Wx : WX) (f : Env → Loc → Out) : TS := fun D σ H =>
  ∃ (F : Gh) (ms : List Addr) (ρ : Env) (l : Loc), SRel F ms l H ∧ EnvR F ms ρ σ ∧ FinO T Wx F ms H (f ρ l) D

/-- what statements need besides -/
structure CxS (X : Cx) : Prop where
  stk : X.stack = X.env :: X.outer
  frm : X.env.frame = some X.env.locals
  pass : PassesOwn (model X.prog X.w) X.A X.env X.xe
  own : X.fn = fun _ => true
  kind : X.env.scope.kind = .function

theorem sw_no {v : Expr} {t : Option Expr} {l : Nat} {env : PySem.Env} (h : noLc v = true) : swapsWith v t l env = pure false := by
  cases v <;> first | (exact absurd h Bool.false_ne_true) | rfl
theorem sws_no {v t : Expr} {l : Nat} {env : PySem.Env} (h : noLc v = true) : swapsWithSole [t] v l env = pure false := sw_no h
theorem sws_cell {sc : Scope} {v t : Expr} {l : Nat} {env : PySem.Env} (hs : env.scope = sc) (h : noSw sc t v = true) : swapsWithSole [t] v l env = pure false := by
  rcases Bool.or_eq_true_iff.mp h with h | h
  · exact sws_no h
  · cases t <;> first | (exact absurd h Bool.false_ne_true) | skip
    rename_i y p h0
    have e : env.kindOf y = some .cell := by
      show env.scope.names.lookup y = _
      rw [hs]
      exact of_decide_eq_true h
    have e2 : (env.kindOf y == some NameKind.local) = false := by rw [e]; rfl
    cases v <;> first | rfl | skip
    all_goals
      show (pure (_ && _ && _ && _) : Sem Bool) = pure false
      rw [e2, Bool.and_false, Bool.false_and, Bool.false_and]
theorem par_no {v t : Expr} {env : PySem.Env} (h : parOk t v = true) : swappedStores [t] v env = pure none := by
  cases t <;> first | (exact absurd h Bool.false_ne_true) | skip
  · rfl
  · cases v <;> first | (exact absurd h Bool.false_ne_true) | rfl
theorem each_one {t v : Expr} {env : PySem.Env} (h : parOk t v = true) : (assignEach [t] env).map (·.2) = [assign t env] := by
  cases t <;> first | (exact absurd h Bool.false_ne_true) | rfl
theorem ix_asg {o i : Expr} {pos : Pos} {env : PySem.Env} (h : nsl i = true) (v : Value) : assign (.Subscript o i pos) env v = (do
      let ov ← holding [v] (eval o env)
      let iv ← holding [v, ov] (eval i env)
      standAt pos
      holding [v, ov, iv] (setItem ov iv v)
      release [v, ov, iv] []) := by
  cases i <;> first | (exact absurd h Bool.false_ne_true) | rfl
theorem ps_mono {X : Cx} {e : Stmt} {t t' : TS} (h : PS X e t) (m : ∀ D σ H, t' D σ H → t D σ H) : PS X e t' := ⟨fun pins s σ H D I q => h.run pins s σ H D I (m D σ H q)⟩
theorem pss_mono {X : Cx} {e : List Stmt} {t t' : TS} (h : PSs X e t) (m : ∀ D σ H, t' D σ H → t D σ H) : PSs X e t' := ⟨fun pins s σ H D I q => h.run pins s σ H D I (m D σ H q)⟩
section
variable {T : Tab} {k : Nat}
theorem owns_of {X : Cx} {sc : Scope} (C : CxS X) (hs : X.env.scope = sc) : Owns X sc := by
  intro x hx
  refine ⟨?_, .inl (by rw [C.own])⟩
  rw [hs]
  exact hx
/-- name = value -/
theorem asg_ps {X : Cx} {Wx : WX} {cf : Cf} {tg : Tg} {e : Ex} {t v : Expr} {pos : Pos} (hv : PE X v (tE T Wx (evE cf e))) (hg : PG X t (gOf X.K tg)) (h1 : swapsWithSole [t] v pos.line X.env = pure false) (h2 : parOk t v = true) :
    PS X (.Assign [t] v pos) (sOf T Wx (evS cf (.asg tg e))) := by
  refine ps_mono (ps_asg hv hg h1 (par_no h2) (each_one h2)) fun D σ H ⟨F, ms, ρ, l, S, E, h⟩ => ⟨F, ms, ρ, l, S, E, (FinO.out E h).mono fun w l1 F1 ms1 H1 t1 S1 z v p => ?_⟩
  split at z
  · rename_i ρ1 e1
    exact asg_ok S1 (E.stp t1) p e1 fun σ' E' _ => z F1 ms1 H1 σ' Stp.refl S1 E'
  · exact z.elim
theorem par_gen {a b p q : Expr} {x y : Str} {c : Bool} {A B : Sem (Option (List Str))} {f : Expr → Bool} {g : Expr → Option Str} (hc : c = false) (fa : f a = false) (fb : f b = false) (gp : g p = some x) (gq : g q = some y) (hn : x ≠ y) (h1 : (foldedForSure 8 a && foldedForSure 8 b) = false) (h2 : (constantsAlone 8 a && constantsAlone 8 b) = false) :
    (if c = true then A else if [a, b].any f = true then A else if (([p, q].filterMap g).length != 2 || ([p, q].filterMap g).eraseDups.length != ([p, q].filterMap g).length) = true then A else if [a, b].all (foldedForSure 8) = true then A else if [a, b].all (constantsAlone 8) = true then B else pure (some ([p, q].filterMap g))) = pure (some [x, y]) := by
  have e2 : [x, y].eraseDups = [x, y] := by
    have : (y == x) = false := by simpa using Ne.symm hn
    simp [List.eraseDups_cons, this]
  have e3 : [p, q].filterMap g = [x, y] := by simp [gp, gq]
  have e4 : [a, b].any f = false := by simp [fa, fb]
  have e5 : [a, b].all (foldedForSure 8) = false := by simpa using h1
  have e6 : [a, b].all (constantsAlone 8) = false := by simpa using h2
  rw [hc, e4, e3, e2, e5, e6]
  rfl
/-- x, y = a, b -/
theorem par_hw {a b : Expr} {x y : Str} {px py pt pt2 : Pos} {kt k2} {env : PySem.Env} (hb : env.blockKind = .function) (hx : env.scope.names.lookup x = some .local) (hy : env.scope.names.lookup y = some .local) (hl : (py.line == px.line) = true) (hn : x ≠ y) (ha : nst a = true) (hb2 : nst b = true)
    (h1 : (foldedForSure 8 a && foldedForSure 8 b) = false) (h2 : (constantsAlone 8 a && constantsAlone 8 b) = false) : swappedStores [.Tuple [.Name x px, .Name y py] kt pt] (.Tuple [a, b] k2 pt2) env = pure (some [x, y]) := by
  have kx : env.kindOf x = some .local := hx
  have ky : env.kindOf y = some .local := hy
  have hl' : py.line = px.line := by simpa using hl
  have e1 : (env.blockKind != .function) = false := by rw [hb]; rfl
  unfold swappedStores
  refine par_gen (c := env.blockKind != .function) (x := x) (y := y) (a := a) (b := b) (p := .Name x px) (q := .Name y py) e1 ?_ ?_ ?_ ?_ hn h1 h2
  · cases a <;> first | rfl | cases ha
  · cases b <;> first | rfl | cases hb2
  · show (if (env.kindOf x == some .local && px.line == px.line) = true then some x else none) = some x
    simp [kx]
  · show (if (env.kindOf y == some .local && py.line == px.line) = true then some y else none) = some y
    simp [ky, hl']
/-- x, y = a, b -/
theorem par_ps {X : Cx} {Wx : WX} {cf : Cf} {i j : Nat} {ea eb : Ex} {a b : Expr} {x y : Str} {px py pt pt2 pos : Pos} {kt k2} (calm : X.calm = true) (hN : X.N.Nodup) (hi : X.N[i]? = some x) (hj : X.N[j]? = some y) (hij : i ≠ j) (hb : X.env.blockKind = .function) (hx : X.env.scope.names.lookup x = some .local) (hy : X.env.scope.names.lookup y = some .local) (hl : (py.line == px.line) = true) (hn : x ≠ y) (sa : nst a = true) (sb : nst b = true)
    (h1 : (foldedForSure 8 a && foldedForSure 8 b) = false) (h2 : (constantsAlone 8 a && constantsAlone 8 b) = false) (pa : PE X a (tE T Wx (evE cf ea))) (pb : PE X b (tE T Wx (evE cf eb))) :
    PS X (.Assign [.Tuple [.Name x px, .Name y py] kt pt] (.Tuple [a, b] k2 pt2) pos) (sOf T Wx (evS cf (.par i j ea eb))) := by
  refine ps_mono (ps_par calm hN hi hj hij hx hy (pa_cons pa (pa_cons pb pa_nil (star_cons sb)) (star_cons sa)) (par_hw hb hx hy hl hn sa sb h1 h2)) fun D σ H ⟨F, ms, ρ, l, S, E, h⟩ => ⟨F, ms, ρ, l, S, E, (FinO.out E h).mono fun w l1 F1 ms1 H1 t1 S1 z v p => ?_⟩
  refine ⟨F1, ms1, ρ, l1, S1, E.stp t1, (FinO.out (E.stp t1) z).mono fun w2 l2 F2 ms2 H2 t2 S2 z2 v2 p2 => ?_⟩
  exact ⟨v, v2, rfl, z2 F2 ms2 H2 _ Stp.refl S2 ((((E.stp t1).stp t2).set (p.stp t2) i).set p2 j)⟩
theorem ret_ps {X : Cx} {Wx : WX} {cf : Cf} {e : Ex} {v : Expr} {pos : Pos} (hv : PE X v (tE T Wx (evE cf e))) : PS X (.Return (some v) pos) (sOf T Wx (evS cf (.ret e))) :=
  ps_mono (ps_ret hv) fun D σ H ⟨F, ms, ρ, l, S, E, h⟩ => ⟨F, ms, ρ, l, S, E, (FinO.out E h).mono fun w l1 F1 ms1 H1 t1 S1 z v p => z F1 ms1 H1 v Stp.refl S1 p⟩
theorem pass_ps {X : Cx} {Wx : WX} {cf : Cf} {pos : Pos} : PS X (.Pass pos) (sOf T Wx (evS cf .pass)) :=
  ps_mono ps_pass fun D σ H ⟨F, ms, ρ, l, S, E, h⟩ => h F ms H σ Stp.refl S E
theorem nil_ps {X : Cx} {Wx : WX} {cf : Cf} : PSs X [] (sOf T Wx (evSs cf .nil)) :=
  pss_mono pss_nil fun D σ H ⟨F, ms, ρ, l, S, E, h⟩ => h F ms H σ Stp.refl S E
theorem cons_ps {X : Cx} {Wx : WX} {cf : Cf} {s : St} {r : Sts} {st : Stmt} {rest : List Stmt} (h1 : PS X st (sOf T Wx (evS cf s))) (h2 : PSs X rest (sOf T Wx (evSs cf r))) :
    PSs X (st :: rest) (sOf T Wx (evSs cf (.cons s r))) := by
  refine pss_mono (pss_cons h1 h2) fun D σ H ⟨F, ms, ρ, l, S, E, h⟩ => ⟨F, ms, ρ, l, S, E, ?_⟩
  have h' : FinO T Wx F ms H ((evS cf s ρ l).thn fun ρ l => evSs cf r ρ l) D := h
  cases q : evS cf s ρ l with
  | nx ρ1 l1 =>
    rw [q] at h'
    exact fun F' ms' H' σ' t S' E' => ⟨F', ms', ρ1, l1, S', E', FinO.shift (o := evSs cf r ρ1 l1) t h'⟩
  | bk ρ1 l1 => rw [q] at h'; exact h'
  | ct ρ1 l1 => rw [q] at h'; exact h'
  | rt w l1 => rw [q] at h'; exact h'
  | exc c p ρ1 l1 => rw [q] at h'; exact h'
  | bad => rw [q] at h'; exact h'
end
end Vx

set_option maxHeartbeats 4000000
namespace Vx
open PySem PySem.Spec PyProof.Rows L2
variable [tb : Tbs] [sp : Spv]
section
variable {T : Tab} {k : Nat} {ak : Nat → Res W → Res W}
/-- for: what the loop is to keep -/
theorem for_ps {X : Cx} {sc : Scope} {Wx : WX} {cf : Cf} {tg : Tg} {kk : Ik} {ie : Exs} {body : Sts} {t iter : Expr} {b : List Stmt} {pos : Pos} (calm : X.calm = true) (C : CxS X)
    (hi : PI X t iter (iOf T Wx kk (evL cf ie))) (hg : PG X t (gOf X.K tg)) (hb : PSs X b (sOf T Wx (evSs cf body))) (hn : nset iter = true) :
    PS X (.For t iter b [] pos) (sOf T Wx (evS cf (.for tg kk ie body))) := by
  refine ps_mono (ps_for C.pass calm hi hg hb (fold_id hn)) fun D σ H ⟨F, ms, ρ, l, S, E, h⟩ => ⟨F, ms, ρ, l, S, E, ?_⟩
  have h1 : Fin T (fun c d H' => Wx c d σ H') F ms H ((evL cf ie ρ l).bind fun ws l => (ret (itms l kk ws) l).bind fun ds l => Res.ok (ws, ds) l) (fun p l F' ms' H' => FinO T Wx F' ms' H' (forGo (stays (walked kk p.1) l) (evSs cf body) tg p.2 ρ l) D) := by
    have h0 : FinO T Wx F ms H ((evL cf ie ρ l).out ρ fun ws l => match itms l kk ws with
      | some ds => forGo (stays (walked kk ws) l) (evSs cf body) tg ds ρ l
      | none => .bad) D := h
    cases q : evL cf ie ρ l with
    | bad => rw [q] at h0; exact h0.elim
    | exc c p l => rw [q] at h0; exact fun e F' ms' H' t S => h0 e F' ms' H' σ t S (E.stp t)
    | ok ws l1 =>
      rw [q] at h0
      simp only [Res.out_ok] at h0
      show Fin T _ F ms H ((ret (itms l1 kk ws) l1).bind fun ds l => Res.ok (ws, ds) l) _
      cases q2 : itms l1 kk ws with
      | none => rw [q2] at h0; exact h0.elim
      | some ds =>
        rw [q2] at h0
        exact fun F' ms' H' t' S' => FinO.shift (o := forGo (stays (walked kk ws) l1) (evSs cf body) tg ds ρ l1) t' h0
  refine h1.mono fun pd l1 F1 ms1 H1 t1 S1 z J wk => ?_
  obtain ⟨ws0, ds⟩ := pd
  dsimp only at z wk
  generalize hst : stays (walked kk ws0) l1 = st at z wk
  let Nx : Nat → L2.St → Hp → Prop := fun i σ' H' => ∃ F' ms' ρ' l', Stp F1 ms1 H1 F' ms' H' ∧ SRel F' ms' (l') H' ∧ EnvR F' ms' ρ' σ' ∧ FinO T Wx F' ms' H' (forGo st (evSs cf body) tg (ds.drop i) ρ' l') D
  refine ⟨fun i n σ' H' => n = ds.length - i ∧ i ≤ ds.length ∧ Nx i σ' H', ⟨ds.length, by simp, Nat.zero_le _, F1, ms1, ρ, l1, Stp.refl, S1, E.stp t1, z⟩, ?_⟩
  rintro i n σ' H' ⟨rfl, hi, F', ms', ρ', l', t', S', E', h'⟩
  by_cases hlt : i < ds.length
  · have hdrop : ds.drop i = ds[i] :: ds.drop (i + 1) := List.drop_eq_getElem_cons hlt
    have hst' : st l' := by
      rw [hdrop] at h'
      unfold forGo at h'
      split at h'
      · assumption
      · exact h'.elim
    refine .inr ⟨(wk.go i F' ms' (l') H' t'.sub t'.obs t'.pre S' hst' hlt).1, Nx (i + 1), fun σ2 H2 w => ⟨ds.length - (i + 1), by omega, rfl, hlt, w⟩, fun x H2 y => ?_⟩
    obtain ⟨d, t2, S2, hd, hr⟩ := (wk.go i F' ms' (l') H' t'.sub t'.obs t'.pre S' hst' hlt).2 x H2 y
    have hdrop : ds.drop i = d :: ds.drop (i + 1) := by
      rw [hdrop]
      have := List.getElem?_eq_getElem hlt
      rw [hd] at this; cases this; rfl
    rw [hdrop] at h'
    unfold forGo at h'
    rw [if_pos hst'] at h'
    cases hA : asgI l' tg d ρ' with
    | none => rw [hA] at h'; exact h'.elim
    | some ρ1 =>
      rw [hA] at h'
      refine asgI_ok S2 (E'.stp t2) hr hA fun σ2 E2 _ => ?_
      refine ⟨F', ms', ρ1, l', S2, E2, ?_⟩
      dsimp only at h'
      cases q : evSs cf body ρ1 l' with
      | nx ρ2 l2 =>
        rw [q] at h'
        exact fun F3 ms3 H3 σ3 t3 S3 E3 => ⟨F3, ms3, ρ2, l2, (t'.trans t2).trans t3, S3, E3, FinO.shift (o := forGo st (evSs cf body) tg (ds.drop (i + 1)) ρ2 l2) (t2.trans t3) h'⟩
      | ct ρ2 l2 =>
        rw [q] at h'
        exact fun F3 ms3 H3 σ3 t3 S3 E3 => ⟨F3, ms3, ρ2, l2, (t'.trans t2).trans t3, S3, E3, FinO.shift (o := forGo st (evSs cf body) tg (ds.drop (i + 1)) ρ2 l2) (t2.trans t3) h'⟩
      | bk ρ2 l2 =>
        rw [q] at h'
        exact fun F3 ms3 H3 σ3 t3 S3 E3 => h' F3 ms3 H3 σ3 (t2.trans t3) S3 E3
      | rt w l2 =>
        rw [q] at h'
        exact fun F3 ms3 H3 v t3 S3 p => h' F3 ms3 H3 v (t2.trans t3) S3 p
      | exc c p ρ2 l2 =>
        rw [q] at h'
        exact fun e F3 ms3 H3 σ3 t3 S3 E3 => h' e F3 ms3 H3 σ3 (t2.trans t3) S3 E3
      | bad => rw [q] at h'; exact h'.elim
  · have e : i = ds.length := by omega
    subst e
    rw [List.drop_length] at h'
    unfold forGo at h'
    split at h'
    · rename_i hst'
      exact .inl ⟨wk.stop F' ms' (l') H' t'.sub t'.obs t'.pre S' hst', h' F' ms' H' σ' Stp.refl S' E'⟩
    · exact h'.elim
theorem whl_ps {X : Cx} {Wx : WX} {cf : Cf} {n : Nat} {c : Te} {body : Sts} {t : Expr} {b : List Stmt} {pos : Pos} (C : CxS X)
    (ht : PT X t (tT T Wx (evT cf c))) (hb : PSs X b (sOf T Wx (evSs cf body))) : PS X (.While t b [] pos) (sOf T Wx (evS cf (.whl n c body))) := by
  refine ps_mono (ps_while C.pass ht hb) fun D σ H ⟨F, ms, ρ, l, S, E, h⟩ => ?_
  let Wn : Nat → L2.St → Hp → Prop := fun m σ H => ∃ F ms ρ l, SRel F ms l H ∧ EnvR F ms ρ σ ∧ FinO T Wx F ms H (whGo (evT cf c) (evSs cf body) m ρ l) D
  refine ⟨Wn, ⟨n, F, ms, ρ, l, S, E, h⟩, ?_⟩
  rintro m σ1 H1 ⟨F1, ms1, ρ1, l1, S1, E1, h1⟩
  cases m with
  | zero => exact h1.elim
  | succ m =>
    refine ⟨F1, ms1, ρ1, l1, S1, E1, (FinO.out E1 h1).mono fun b l2 F2 ms2 H2 t2 S2 z => ?_⟩
    cases b with
    | false =>
      rw [if_neg Bool.false_ne_true]
      exact z F2 ms2 H2 σ1 Stp.refl S2 (E1.stp t2)
    | true =>
      rw [if_pos rfl]
      refine ⟨Wn m, fun σ' H' w => ⟨m, Nat.lt_succ_self _, w⟩, F2, ms2, ρ1, l2, S2, E1.stp t2, ?_⟩
      dsimp only at z
      cases q : evSs cf body ρ1 l2 with
      | nx ρ2 l3 =>
        rw [q] at z
        exact fun F3 ms3 H3 σ3 t3 S3 E3 => ⟨F3, ms3, ρ2, l3, S3, E3, FinO.shift (o := whGo (evT cf c) (evSs cf body) m ρ2 l3) t3 z⟩
      | ct ρ2 l3 =>
        rw [q] at z
        exact fun F3 ms3 H3 σ3 t3 S3 E3 => ⟨F3, ms3, ρ2, l3, S3, E3, FinO.shift (o := whGo (evT cf c) (evSs cf body) m ρ2 l3) t3 z⟩
      | bk ρ2 l3 => rw [q] at z; exact z
      | rt w l3 => rw [q] at z; exact z
      | exc c p ρ2 l3 => rw [q] at z; exact z
      | bad => rw [q] at z; exact z
/-- the context of a suite -/
theorem Cxt.suite {X : Cx} {sc : Scope} {Wx : WX} (C : Cxt T k X sc Wx) {sp2 : Spv} (a : Addr) (pn : List (Addr × PySem.Obj)) (hx : ∀ b c ds, sp2.P b c ds → ∃ (oe : PySem.Obj) (x : Str), (b, oe) ∈ pn ∧ Zc (.ref (T.ca c)) none oe ∧ (∃ vs, oe.data = .fields vs) ∧ T.cn[c]? = some x) : @Cxt _ sp2 T.toHot k (X.suite a pn) sc W0 := by
  obtain ⟨f, h1, h2, h3, h4, h5, h6, h7, h8, h9, h10⟩ := C
  exact @Cxt.mk _ sp2 T.toHot k (X.suite a pn) sc W0 (@Facts.hotter _ sp sp2 _ _ _ _ _ _ _ f) h1 h2 (fun h => Bool.noConfusion (show true = false from h)) (fun h => Bool.noConfusion (show true = false from h)) h5 (fun h => Bool.noConfusion (show true = false from h)) (fun h => Bool.noConfusion (show true = false from h)) (fun _ => hx) (fun h => Bool.noConfusion (show false = true from h)) ⟨h10.1, h10.2⟩
theorem CxS.suite {X : Cx} (C : CxS X) (a : Addr) (pn : List (Addr × PySem.Obj)) : CxS (X.suite a pn) := ⟨C.stk, C.frm, PassesOwn.never, C.own, C.kind⟩
/-- what stands for the exception in the suite -/
@[reducible] def svE (T : Tab) (a : Addr) (cls : Value) (d : Option Addr) : Spv := ⟨fun b c _ => b = a ∧ cls = .ref (T.ca c) ∧ d = none ∧ ∃ x, T.cn[c]? = some x⟩
theorem svE_ok {T : Tab} {a : Addr} {cls : Value} {d : Option Addr} {oe : PySem.Obj} {pn : List (Addr × PySem.Obj)} (hz : Zc cls d oe) (hf : ∃ vs, oe.data = .fields vs) : ∀ b c ds, (svE T a cls d).P b c ds → ∃ (o : PySem.Obj) (x : Str), (b, o) ∈ (a, oe) :: pn ∧ Zc (.ref (T.ca c)) none o ∧ (∃ vs, o.data = .fields vs) ∧ T.cn[c]? = some x := by
  rintro b c ds ⟨rfl, rfl, rfl, x, hc⟩
  exact ⟨oe, x, List.mem_cons_self, hz, hf, hc⟩
/-- try: one class, no name -/
theorem try_ps {X : Cx} {sc : Scope} {Wx : WX} {c : Nat} {body suite : Sts} {x : Str} {b : List Stmt} {s0 : Stmt} {sr : List Stmt} {np pos pos' : Pos} (C : Cxt T k X sc Wx) (CS : CxS X) (hh : T.hot = false) (hg : okG sc x = true) (hc : T.cn[c]? = some x)
    (hb : ∀ (W' : WX) (pn : List (Addr × PySem.Obj)) (xe : Value → Shared → Prop), Takes (X.tr pn xe) W' → PassesOwn (model X.prog X.w) X.A X.env xe → PSs (X.tr pn xe) b (sOf T W' (evSs (cfA T k ak) body)))
    (hs : ∀ (Y : Cx), Y.N = X.N → Cxt T.toHot k Y sc W0 → CxS Y → PSs Y (s0 :: sr) (sOf T.toHot W0 (evSs (cfA T k ak) suite))) : PS X (.Try b [.ExceptHandler (some (.Name x np)) none (s0 :: sr) pos'] [] [] pos) (sOf T Wx (evS (cfA T k ak) (.try c none body suite))) := by
  obtain ⟨g1, g2⟩ := gl_of C.sc hg
  obtain ⟨m1, m2, m3, m4, m5⟩ := C.facts.exc c x hc
  refine ps_mono (ps_try_only (c := .ref (T.ca c)) CS.stk CS.frm ⟨g1, g2, .inl m1⟩ (C.tk hh) hb fun a oe cls d pn hz hf => hs (X.suite a ((a, oe) :: pn)) rfl (C.suite a _ fun b c ds z => absurd z (C.cold hh b c ds)) (CS.suite a _)) fun D σ H ⟨F, ms, ρ, l, S, E, h⟩ => ?_
  refine ⟨F, ms, ρ, l, S, E, ?_⟩
  have h' : FinO T Wx F ms H (tryO T.sub c none (evSs (cfA T k ak) suite) (evSs (cfA T k ak) body ρ l)) D := h
  cases q : evSs (cfA T k ak) body ρ l with
  | nx ρ2 l2 => rw [q] at h'; exact h'
  | bk ρ2 l2 => rw [q] at h'; exact h'
  | ct ρ2 l2 => rw [q] at h'; exact h'
  | rt w l2 => rw [q] at h'; exact h'
  | bad => rw [q] at h'; exact h'
  | exc c' p ρ2 l2 =>
    rw [q] at h'
    unfold tryO at h'
    dsimp only at h'
    cases qs : T.sub c' c with
    | none => rw [qs] at h'; exact h'.elim
    | some v =>
      rw [qs] at h'
      have hx := C.facts.exm c' c v qs
      cases v with
      | false => exact fun e F' ms' H' σ' t' S' E' => ⟨false, hx, fun z => absurd z Bool.false_ne_true, fun _ => h' e F' ms' H' σ' t' S' E'⟩
      | true =>
        refine fun e F' ms' H' σ' t' S' E' => ⟨true, hx, fun _ a ha => ⟨F', ms', ρ2, l2, S', E', ?_⟩, fun z => absurd z (by decide)⟩
        dsimp only at h'
        cases q3 : evSs (cfA T k ak) suite ρ2 l2 with
        | nx ρ3 l3 => rw [q3] at h'; exact FinO.shift (o := .nx ρ3 l3) (Wx := W0) t' h'
        | bk ρ3 l3 => rw [q3] at h'; exact FinO.shift (o := .bk ρ3 l3) (Wx := W0) t' h'
        | ct ρ3 l3 => rw [q3] at h'; exact FinO.shift (o := .ct ρ3 l3) (Wx := W0) t' h'
        | rt w l3 => rw [q3] at h'; exact FinO.shift (o := .rt w l3) (Wx := W0) t' h'
        | exc c2 p2 ρ3 l3 => rw [q3] at h'; exact h'.elim
        | bad => rw [q3] at h'; exact h'.elim
/-- from a suite's end to what follows the try -/
theorem out_suite {X : Cx} {Wx : WX} {F F0 : Gh} {ms ms0 : List Addr} {H H0 : Hp} {ρ : Env} {σ : L2.St} {l : Loc} {i : Nat} {D : Ends} {o : Out} (z : ∀ a c ds, ¬ sp.P a c ds) (t : Stp F0 ms0 H0 F ms H) (S : SRel F ms l H) (E : EnvR F ms ρ σ) (σ1 : L2.St) (hl : σ1.length = σ.length)
    (h : FinO T Wx F0 ms0 H0 (outS i ρ l o) D) {sv : Spv} : @FinO _ sv T.toHot W0 F ms H o { nx := fun σ' H' => D.nx (σ'.set i none) H', rt := D.rt, bk := fun σ' H' => D.bk (σ'.set i none) H', ct := fun σ' H' => D.ct (σ'.set i none) H' } := by
  have lE : ρ.length = σ.length := by
    obtain ⟨x, _⟩ := E
    exact x
  unfold outS at h
  cases o with
  | nx ρ2 l2 =>
    dsimp only at h
    split at h
    · rename_i q
      obtain ⟨rfl, q2⟩ := q
      intro F3 ms3 H3 σ3 t3 S3 E3
      have l3 : ρ2.length = σ3.length := by obtain ⟨x, _⟩ := E3; exact x
      exact h F3 ms3 H3 _ (t.trans t3) (@SRel.down _ sp sv _ _ _ _ _ _ _ z S S3) (@EnvR.out _ sp sv _ _ _ _ _ _ _ _ _ z E E3 (by omega))
    · exact h.elim
  | rt w l2 =>
    dsimp only at h
    split at h
    · rename_i q
      obtain ⟨rfl, q2⟩ := q
      intro F3 ms3 H3 v t3 S3 p3
      exact h F3 ms3 H3 v (t.trans t3) (@SRel.down _ sp sv _ _ _ _ _ _ _ z S S3) (@Rp.conv _ sv sp _ _ _ _ q2 p3)
    · exact h.elim
  | bk ρ2 l2 => exact h.elim
  | ct ρ2 l2 => exact h.elim
  | exc c2 p2 ρ2 l2 => exact h.elim
  | bad => exact h.elim
/-- try .. except C as n -/
theorem tryAs_ps {X : Cx} {sc : Scope} {Wx : WX} {c i : Nat} {body suite : Sts} {x n : Str} {b : List Stmt} {s0 : Stmt} {sr : List Stmt} {np pos pos' : Pos} (C : Cxt T k X sc Wx) (CS : CxS X) (hh : T.hot = false) (hg : okG sc x = true) (hc : T.cn[c]? = some x) (hi : X.N[i]? = some n) (hn : sc.names.lookup n = some .local)
    (hb : ∀ (W' : WX) (pn : List (Addr × PySem.Obj)) (xe : Value → Shared → Prop), Takes (X.tr pn xe) W' → PassesOwn (model X.prog X.w) X.A X.env xe → PSs (X.tr pn xe) b (sOf T W' (evSs (cfA T k ak) body)))
    (hs : ∀ (sv : Spv) (Y : Cx), Y.N = X.N → @Cxt _ sv T.toHot k Y sc W0 → CxS Y → PSs Y (s0 :: sr) (@sOf _ sv T.toHot W0 (evSs (cfA T k ak) suite))) : PS X (.Try b [.ExceptHandler (some (.Name x np)) (some n) (s0 :: sr) pos'] [] [] pos) (sOf T Wx (evS (cfA T k ak) (.try c (some i) body suite))) := by
  obtain ⟨g1, g2⟩ := gl_of C.sc hg
  obtain ⟨m1, m2, m3, m4, m5⟩ := C.facts.exc c x hc
  have hk : X.env.kindOf n = some .local := by
    show X.env.scope.names.lookup n = some .local
    rw [C.sc]; exact hn
  refine ps_mono (ps_try_as (c := .ref (T.ca c)) (ts := fun a cls d => @sOf _ (svE T a cls d) T.toHot W0 (evSs (cfA T k ak) suite)) CS.stk CS.frm C.nd hi hk ⟨g1, g2, .inl m1⟩ (C.tk hh) hb fun a oe cls d pn hz hf => hs (svE T a cls d) (X.suite a ((a, oe) :: pn)) rfl (C.suite (sp2 := svE T a cls d) a _ (svE_ok hz hf)) (CS.suite a _)) fun D σ H ⟨F, ms, ρ, l, S, E, h⟩ => ?_
  refine ⟨F, ms, ρ, l, S, E, ?_⟩
  have h' : FinO T Wx F ms H (tryO T.sub c (some i) (evSs (cfA T k ak) suite) (evSs (cfA T k ak) body ρ l)) D := h
  cases q : evSs (cfA T k ak) body ρ l with
  | nx ρ2 l2 => rw [q] at h'; exact h'
  | bk ρ2 l2 => rw [q] at h'; exact h'
  | ct ρ2 l2 => rw [q] at h'; exact h'
  | rt w l2 => rw [q] at h'; exact h'
  | bad => rw [q] at h'; exact h'
  | exc c' p ρ2 l2 =>
    rw [q] at h'
    unfold tryO at h'
    dsimp only at h'
    cases qs : T.sub c' c with
    | none => rw [qs] at h'; exact h'.elim
    | some v =>
      rw [qs] at h'
      have hx := C.facts.exm c' c v qs
      cases v with
      | false => exact fun e F' ms' H' σ' t' S' E' => ⟨false, hx, fun z => absurd z Bool.false_ne_true, fun _ => h' e F' ms' H' σ' t' S' E'⟩
      | true =>
        refine fun e F' ms' H' σ' t' S' E' => ⟨true, hx, fun _ a ha => ?_, fun z => absurd z (by decide)⟩
        have z := C.cold hh
        have pe : @Rp (svE T a (.ref (T.ca c')) none) F' ms' (.ref a) (.d (.ins c' [p])) := by
          show @Rep (svE T a (.ref (T.ca c')) none) F' (.ref a) (.ins c' [p])
          unfold Rep
          exact ⟨a, rfl, rfl, rfl, rfl, C.facts.sbn c' c true qs⟩
        have Eu := @EnvR.set _ (svE T a (.ref (T.ca c')) none) _ _ _ _ _ _ (@EnvR.up _ sp (svE T a (.ref (T.ca c')) none) _ _ _ _ z E') pe i
        refine ⟨F', ms', ρ2.set i (some (.d (.ins c' [p]))), l2, @SRel.up _ sp (svE T a (.ref (T.ca c')) none) _ _ _ _ z S', Eu, ?_⟩
        exact out_suite (X := X) z t' S' E' (σ'.set i (some (.ref a))) (by simp) h'
theorem raise_ps {X : Cx} {sc : Scope} {Wx : WX} {cf : Cf} {c : Nat} {m : Str} {x z : Str} {j : Nat} {p p2 p3 pos : Pos} (C : Cxt T k X sc Wx) (hh : T.hot = false) (hg : okG sc x = true) (hc : T.cn[c]? = some x) :
    PS X (.Raise (some (.Call (.Name x p) [.Constant (.str z) j p2] [] p3)) none pos) (sOf T Wx (evS cf (.raise c m))) := by
  obtain ⟨g1, g2⟩ := gl_of C.sc hg
  obtain ⟨m1, m2, m3, m4, m5⟩ := C.facts.exc c x hc
  refine ps_mono (ps_raise (C.calm hh) (C.tk hh) (pmk_own PySem.F.excBase_ValueError m2 m1 m3 (raises_own m4 m5) g1 g2)) fun D σ H ⟨F, ms, ρ, l, S, E, h⟩ => ?_
  exact h rfl F ms H σ Stp.refl S E
/-- o[i] = value, of a list or a dict -/
def rSetA (X : Cx) : V → V → V → Hp → (Hp → Prop) → Prop := fun o i v H Q => rSetL o i v H Q ∨ ∃ (F : Gh) (ms : List Addr) (st : Loc) (n : Nat) (a : Addr) (ver : Nat) (ks : List (D × W)) (kk : D) (w : W), o = .ref a ∧ SRel F ms st H ∧ ms[n]? = some a ∧ st[n]? = some (.dct ver ks) ∧ kyOk ks kk = true ∧ ks.length < 16777216 ∧ Rep F i kk ∧ Rp F ms v w ∧
  ∀ F' H', Stp F ms H F' ms H' → SRel F' ms (st.set n (.dct (ver + 1) (putK ks kk w))) H' → Q H'
theorem set_any {X : Cx} (C : PwOk X) (hu : X.A.units + 1 < cLine) : PSet X (rSetA X) := by
  intro pins s σ H o i v ov iv u Q I ro ri rv h
  rcases h with h | ⟨F, ms, st, n, a, ver, ks, kk, w, rfl, S, e, q, hk, hl, hy, px, z⟩
  · exact set_list pins s σ H o i v ov iv u Q I ro ri rv h
  · cases ro
    obtain ⟨od, D0⟩ := dc_at C I S e q
    exact dx_setItem C hu I S e D0 hk hl hy ri rv px fun s' F' H' I' t S' => ⟨H', I', z F' H' t S'⟩
/-- o[i] = value -/
theorem setI_ps {X : Cx} {sc : Scope} {Wx : WX} {cf : Cf} {o i e : Ex} {x y v : Expr} {p pos : Pos} (C : Cxt T k X sc Wx) (hv : PE X v (tE T Wx (evE cf e))) (ho : PE X x (tE T Wx (evE cf o))) (hi : PE X y (tE T Wx (evE cf i)))
    (h1 : noLc v = true) (h2 : nsl y = true) : PS X (.Assign [.Subscript x y p] v pos) (sOf T Wx (evS cf (.setI o i e))) := by
  refine ps_mono (ps_asg hv (pg_sub ho hi (set_any C.pw (by have := C.un; omega)) (ix_asg h2)) (sws_no h1) (by cases v <;> rfl) rfl) fun D σ H ⟨F, ms, ρ, l, S, E, h⟩ => ⟨F, ms, ρ, l, S, E, (FinO.out E h).mono fun w l1 F1 ms1 H1 t1 S1 z u pu => ?_⟩
  refine ⟨F1, ms1, ρ, l1, S1, E.stp t1, (FinO.out (E.stp t1) z).mono fun wo l2 F2 ms2 H2 t2 S2 z2 uo po => ?_⟩
  refine ⟨F2, ms2, ρ, l2, S2, (E.stp t1).stp t2, (FinO.out ((E.stp t1).stp t2) z2).mono fun wi l3 F3 ms3 H3 t3 S3 z3 ui pi => ?_⟩
  cases q : setIW l3 wo wi w with
  | none => rw [q] at z3; exact z3.elim
  | some l4 =>
    rw [q] at z3
    unfold setIW at q
    split at q
    · rename_i n kk
      have pp := po.stp t3
      obtain ⟨a, ea, rfl⟩ := pp
      have hm : a ∈ ms3 := List.mem_of_getElem? ea
      cases q2 : (l3)[n]? with
      | none => rw [q2] at q; cases q
      | some ob =>
        rw [q2] at q
        cases ob with
        | ins _ _ => cases q
        | dead => cases q
        | tup _ => cases q
        | dct ver ks =>
          have q4 : (if kyOk ks kk ∧ ks.length < 16777216 then some (l3.set n (.dct (ver + 1) (putK ks kk w))) else none) = some l4 := q
          split at q4
          · rename_i hz
            cases q4
            exact .inr ⟨F3, ms3, l3, n, a, ver, ks, kk, w, rfl, S3, ea, q2, hz.1, hz.2, pi, (pu.stp t2).stp t3, fun F' H' t S' => z3 F' ms3 H' σ t S' ((((E.stp t1).stp t2).stp t3).stp t)⟩
          · cases q4
        | lst ws =>
          dsimp only at q
          cases kk <;> first | (cases q; done) | skip
          rename_i j
          dsimp only at q
          cases q3 : ixn ws.length j with
          | none => rw [q3] at q; cases q
          | some m =>
            rw [q3] at q
            cases (show some (l3.set n (.lst (ws.set m w))) = some l4 from q)
            obtain ⟨hF, vs, hH, hl⟩ := S3.at_ n a _ ea q2
            have hj : ui = .int j := pi
            refine .inl ⟨a, vs, j, m, rfl, hj, hH, by rw [hl.len]; exact q3, ?_⟩
            refine z3 F3 ms3 _ σ (Stp.write hm) ?_ (((E.stp t1).stp t2).stp t3)
            exact S3.write ea hF hH ⟨hF, _, upd_same, hl.set m ((pu.stp t2).stp t3)⟩
    · cases q
theorem putF_zip : ∀ {xs : List Str} {vs : List V} {i : Nat} {x : Str} {y : V}, xs.Nodup → xs[i]? = some x → (i < vs.length → putF x y (xs.zip vs) = xs.zip (vs.set i y)) ∧ (i = vs.length → putF x y (xs.zip vs) = xs.zip (vs ++ [y]))
  | [], _, _, _, _, _, e => by simp at e
  | z :: xs, [], i, x, y, nd, e => by
    refine ⟨fun h => by simp at h, fun h => ?_⟩
    have : i = 0 := h
    subst this
    have : z = x := by simpa using e
    subst this
    simp [putF]
  | z :: xs, v :: vs, 0, x, y, nd, e => by
    have : z = x := by simpa using e
    subst this
    refine ⟨fun _ => ?_, fun h => by simp at h⟩
    show (if z = z then (z, y) :: xs.zip vs else _) = _
    rw [if_pos rfl]
    rfl
  | z :: xs, v :: vs, i + 1, x, y, nd, e => by
    have e' : xs[i]? = some x := by simpa using e
    obtain ⟨h1, h2⟩ := List.nodup_cons.mp nd
    obtain ⟨a, b⟩ := putF_zip (vs := vs) (y := y) h2 e'
    have hn : z ≠ x := fun h => h1 (by rw [h]; exact List.mem_of_getElem? e')
    refine ⟨fun h => ?_, fun h => ?_⟩
    · show (if z = x then _ else (z, v) :: putF x y (xs.zip vs)) = _
      rw [if_neg hn, a (by simpa using h)]
      rfl
    · show (if z = x then _ else (z, v) :: putF x y (xs.zip vs)) = _
      rw [if_neg hn, b (by simpa using h)]
      rfl
/-- o.f = value -/
theorem setF_ps {X : Cx} {sc : Scope} {Wx : WX} {cf : Cf} {f : Nat} {o e : Ex} {x v : Expr} {y : Str} {p pos : Pos} (hcf : cf.fl = T.pt.fl) (C : Cxt T k X sc Wx) (hv : PE X v (tE T Wx (evE cf e))) (ho : PE X x (tE T Wx (evE cf o)))
    (h1 : noLc v = true) (hf : T.fn[f]? = some y) : PS X (.Assign [.Attribute x y p] v pos) (sOf T Wx (evS cf (.setF f o e))) := by
  refine ps_mono (ps_fld ho hv (sw_no h1)) fun D σ H ⟨F, ms, ρ, l, S, E, h⟩ => ⟨F, ms, ρ, l, S, E, (FinO.out E h).mono fun w l1 F1 ms1 H1 t1 S1 z u pu => ?_⟩
  refine ⟨F1, ms1, ρ, l1, S1, E.stp t1, (FinO.out (E.stp t1) z).mono fun wo l2 F2 ms2 H2 t2 S2 z2 uo po => ?_⟩
  rw [hcf] at z2
  cases q : setFW T.pt.fl f l2 wo w with
  | none => rw [q] at z2; exact z2.elim
  | some l3 =>
    rw [q] at z2
    cases wo with
    | d _ => cases q
    | r n =>
      obtain ⟨a, ea, rfl⟩ := po
      have hm : a ∈ ms2 := List.mem_of_getElem? ea
      unfold setFW at q
      dsimp only at q
      cases q2 : l2[n]? with
      | none => rw [q2] at q; cases q
      | some ob =>
        rw [q2] at q
        cases ob with
        | lst _ => cases q
        | dct _ _ => cases q
        | tup _ => cases q
        | dead => cases q
        | ins c ws =>
          dsimp only at q
          cases q3 : T.pt.fl c f with
          | none => rw [q3] at q; cases q
          | some i =>
            rw [q3] at q
            obtain ⟨x', e1, e2, nd, na, cl, hl9⟩ := C.facts.fld c f i q3
            rw [hf] at e1
            cases e1
            obtain ⟨hF, dx, vs, hH, hle, hl⟩ := ins_at S2 ea q2
            have hlen := hl.len
            have hz : ((Tbs.fn c).zip vs).length < 1000 := by rw [List.length_zip]; omega
            have hil : i < (Tbs.fn c).length := (List.getElem?_eq_some_iff.mp e2).1
            refine ⟨a, _, dx, _, rfl, hH, cl, na, hz, ?_⟩
            have q4 : (if i < ws.length then some (l2.set n (.ins c (ws.set i w))) else if i = ws.length then some (l2.set n (.ins c (ws ++ [w]))) else none) = some l3 := q
            split at q4
            · rename_i hi
              cases q4
              rw [(putF_zip nd e2).1 (by omega)]
              exact z2 F2 ms2 _ σ (Stp.write hm) (S2.write ea hF hH ⟨hF, dx, _, upd_same, by simpa using hle, hl.set i (pu.stp t2)⟩) ((E.stp t1).stp t2)
            · split at q4
              · rename_i hi
                cases q4
                rw [(putF_zip nd e2).2 (by omega)]
                exact z2 F2 ms2 _ σ (Stp.write hm) (S2.write ea hF hH ⟨hF, dx, _, upd_same, by simp; omega, hl.append ⟨pu.stp t2, trivial⟩⟩) ((E.stp t1).stp t2)
              · cases q4
theorem lcParts {N : List Str} {sc : Scope} {m : Bool} {tg : Tg} {kk : Ik} {ie : Exs} {cs : Tes} {e : Ex} {own : List (Str × Nat)} {elt : Expr} {gs : List Comprehension} {scope : Scope} {pos : Pos} (h : okE T N sc (.lc m tg kk ie cs e own) (.ListComp elt gs scope pos) = true) :
    ∃ tx iter ifs, gs = [⟨tx, iter, ifs, 0⟩] ∧ blkC N sc scope own = true ∧ okTg N scope tg tx = true ∧ (tgIs tg).all (fun i => (own.map (·.2)).contains i) = true ∧ nset iter = true ∧ okI T N sc kk ie iter = true ∧ okTs T N (relS scope sc) cs ifs = true ∧ okE T N (relS scope sc) e elt = true ∧ T.hot = false := by
  match gs, h with
  | [], h => exact absurd h Bool.false_ne_true
  | ⟨_, _, _, n⟩ :: _ :: _, h => exfalso; simp [okE] at h
  | [⟨tx, iter, ifs, n⟩], h =>
    have hn : n = 0 := by
      rcases Decidable.em (n = 0) with e | e
      · exact e
      · exfalso
        simp [okE, e] at h
    subst hn
    obtain ⟨h123456, h7⟩ := and2 (show (!T.hot && blkC N sc scope own && okTg N scope tg tx && (tgIs tg).all (fun i => (own.map (·.2)).contains i) && nset iter && okI T N sc kk ie iter && okTs T N (relS scope sc) cs ifs && okE T N (relS scope sc) e elt) = true from h)
    obtain ⟨h12345, h6⟩ := and2 h123456
    obtain ⟨h1234, h5⟩ := and2 h12345
    obtain ⟨h123, h4⟩ := and2 h1234
    obtain ⟨h12, h3⟩ := and2 h123
    obtain ⟨h01, h2⟩ := and2 h12
    obtain ⟨h0, h1⟩ := and2 h01
    exact ⟨_, _, _, rfl, h1, h2, h3, h4, h5, h6, h7, by simpa using h0⟩
theorem lcA_ps {X : Cx} {sc : Scope} {Wx : WX} {tg : Tg} {e : Ex} {t v : Expr} {pos : Pos} (hq : T.ask = true → AskOk T k ak) (C : Cxt T k X sc Wx) (CS : CxS X) (h : okLcA T X.N sc tg e t v = true) : PS X (.Assign [t] v pos) (sOf T Wx (evS (cfA T k ak) (.asg tg e))) := by
  cases tg with
  | t _ => exact absurd h Bool.false_ne_true
  | n i =>
    cases e <;> first | (exact absurd h Bool.false_ne_true) | skip
    rename_i m tg kk ie cs ee own
    cases t <;> first | (exact absurd h Bool.false_ne_true) | skip
    rename_i y py
    cases v <;> first | (exact absurd h Bool.false_ne_true) | skip
    rename_i elt gs scope lpos
    obtain ⟨a1234, a5⟩ := and2 (show (decide (X.N[i]? = some y) && decide (sc.names.lookup y = some .local) && (py.line == lpos.line) && !(scope.names.any fun (n, k) => n == y && (k == .local || k == .cell)) && okE T X.N sc (.lc m tg kk ie cs ee own) (.ListComp elt gs scope lpos)) = true from h)
    obtain ⟨a123, a4⟩ := and2 a1234
    obtain ⟨a12, a3⟩ := and2 a123
    obtain ⟨a1, a2⟩ := and2 a12
    have b1 := of_decide_eq_true a1
    have b2 := of_decide_eq_true a2
    have b4 : (scope.names.any fun (n, k) => n == y && (k == .local || k == .cell)) = false := by simpa using a4
    obtain ⟨tx, iter, ifs, rfl, h1, h2, h3, h4, h5, h6, h7, hh⟩ := lcParts a5
    have hb : BlkOk X.N sc scope own := blkOk_by h1
    have hb' : BlkOk X.N X.env.scope scope own := by rw [C.sc]; exact hb
    have hgg : ∀ (s : Shared) (H : Hp) (B : Addr) (cl : List (Str × Addr)) (fp : List Addr), PG (X.blk s H scope (compEnvC scope cl B X.env) fp) tx (gOf X.K tg) :=
      fun s H B cl fp => tg_pg (X := X.blk s H scope (compEnvC scope cl B X.env) fp) (tg := tg) C.nd (C.calm hh) (owns_blk hb s H B cl fp) h2
    refine ps_mono (ps_setLc (own := own) (C.calm hh) C.nd b1 (by rw [C.sc]; exact b2) (sw_true CS.kind (by rw [C.sc]; exact b2) a3 b4) (sndI kk ie T hq X sc Wx tx iter C h5) hb'
      hgg
      (fun s H B cl fp => sndTs cs T hq (X.blk s H scope (compEnvC scope cl B X.env) fp) (relS scope sc) W0 ifs (C.blk hh s H scope B cl fp) h6)
      (fun s H B cl fp => sndE ee T hq (X.blk s H scope (compEnvC scope cl B X.env) fp) (relS scope sc) W0 elt (C.blk hh s H scope B cl fp) h7) (fold_id h4)) fun D σ H ⟨F, ms, ρ, l, S, E, h⟩ => ?_
    refine lc_read (m := m) (K := X.K) (fun i hi => by simpa using List.all_eq_true.mp h3 i hi) ⟨F, ms, ρ, l, S, E, ?_⟩
    refine (FinO.out E h).mono fun w l1 F1 ms1 H1 t1 S1 z v p => ?_
    exact z F1 ms1 H1 _ Stp.refl S1 ((E.stp t1).set p i)

theorem okTry {N : List Str} {sc : Scope} {c : Nat} {e : Option Nat} {body suite : Sts} {st : Stmt} (h : okS T N sc (.try c e body suite) st = true) :
    ∃ b x nm np s0 sr p1 p2, st = .Try b [.ExceptHandler (some (.Name x np)) nm (s0 :: sr) p1] [] [] p2 ∧ T.hot = false ∧ okAs N sc e nm = true ∧ okG sc x = true ∧ T.cn[c]? = some x ∧ okSs T N sc body b = true ∧ okSs T.toHot N sc suite (s0 :: sr) = true := by
  unfold okS at h
  split at h <;> first | (exact absurd h Bool.false_ne_true) | skip
  all_goals first
    | (rename_i e1; cases e1; done)
    | (rename_i e1 _; cases e1; done)
    | skip
  rename_i hh
  cases hh
  obtain ⟨h12345, h6⟩ := and2 h
  obtain ⟨h1234, h5⟩ := and2 h12345
  obtain ⟨h123, h4⟩ := and2 h1234
  obtain ⟨h12, h3⟩ := and2 h123
  obtain ⟨h1, h2⟩ := and2 h12
  exact ⟨_, _, _, _, _, _, _, _, rfl, by simpa using h1, h2, h3, of_decide_eq_true h4, h5, h6⟩
theorem tgc_pg {X : Cx} {sc : Scope} {Wx : WX} {tg : Tg} {t : Expr} (C : Cxt T k X sc Wx) (CS : CxS X) (h0 : (!T.hot || tgN tg) = true) (h : okTg X.N sc tg t = true) : PG X t (gOf X.K tg) := by
  cases hh : T.hot with
  | false => exact tg_pg C.nd (C.calm hh) (owns_of CS C.sc) h
  | true =>
    rw [hh] at h0
    cases tg with
    | t is => exact absurd h0 Bool.false_ne_true
    | n i =>
      cases t <;> first | (exact absurd h Bool.false_ne_true) | skip
      exact name_pg C.nd (owns_of CS C.sc) h
theorem okPar {N : List Str} {sc : Scope} {i j : Nat} {a b : Ex} {st : Stmt} (h : okS T N sc (.par i j a b) st = true) :
    ∃ x y px py kt pt v u k2 pt2 pos, st = .Assign [.Tuple [.Name x px, .Name y py] kt pt] (.Tuple [v, u] k2 pt2) pos ∧ (!T.hot && decide (N[i]? = some x) && decide (N[j]? = some y) && !(i == j) && decide (sc.names.lookup x = some .local) && decide (sc.names.lookup y = some .local) && (py.line == px.line) && decide (x ≠ y) &&
      nst v && nst u && !(foldedForSure 8 v && foldedForSure 8 u) && !(constantsAlone 8 v && constantsAlone 8 u) && okE T N sc a v && okE T N sc b u) = true := by
  unfold okS at h
  split at h <;> first | (exact absurd h Bool.false_ne_true) | skip
  all_goals first
    | (rename_i e1; cases e1; done)
    | (rename_i e1 _; cases e1; done)
    | skip
  rename_i hh
  cases hh
  exact ⟨_, _, _, _, _, _, _, _, _, _, _, rfl, h⟩
/-! the statements -/
mutual
theorem sndS : ∀ (ir : St) (sp : Spv) (T : Tab) (hq : T.ask = true → AskOk T k ak) (X : Cx) (sc : Scope) (Wx : WX) (st : Stmt), Cxt T k X sc Wx → CxS X → okS T X.N sc ir st = true → PS X st (sOf T Wx (evS (cfA T k ak) ir))
  | .asg tg e, sp, T, hq, X, sc, Wx, st, C, CS, h => by
    cases st <;> first | (exact absurd h Bool.false_ne_true) | skip
    rename_i ts v p
    match ts, h with
    | [], h => exact absurd h Bool.false_ne_true
    | _ :: _ :: _, h => exact absurd h Bool.false_ne_true
    | [t], h =>
      rcases Bool.or_eq_true_iff.mp (show (((!T.hot || tgN tg) && noSw sc t v && parOk t v && okTg X.N sc tg t && okE T X.N sc e v) || okLcA T X.N sc tg e t v) = true from h) with h | h
      · obtain ⟨h123, h4⟩ := and2 h
        obtain ⟨h12, h3⟩ := and2 h123
        obtain ⟨h01, h2⟩ := and2 h12
        obtain ⟨h0, h1⟩ := and2 h01
        exact asg_ps (sndE e T hq X sc Wx v C h4) (tgc_pg C CS h0 h3) (sws_cell C.sc h1) h2
      · exact lcA_ps hq C CS h
  | .setI o i e, sp, T, hq, X, sc, Wx, st, C, CS, h => by
    cases st <;> first | (exact absurd h Bool.false_ne_true) | skip
    rename_i ts v p
    match ts, h with
    | [], h => exact absurd h Bool.false_ne_true
    | t :: _ :: _, h => exfalso; cases t <;> exact absurd h Bool.false_ne_true
    | [t], h =>
      cases t <;> first | (exact absurd h Bool.false_ne_true) | skip
      rename_i x y p2
      obtain ⟨h1234, h5⟩ := and2 (show (noLc v && nsl y && okE T X.N sc o x && okE T X.N sc i y && okE T X.N sc e v) = true from h)
      obtain ⟨h123, h4⟩ := and2 h1234
      obtain ⟨h12, h3⟩ := and2 h123
      obtain ⟨h1, h2⟩ := and2 h12
      exact setI_ps C (sndE e T hq X sc Wx v C h5) (sndE o T hq X sc Wx x C h3) (sndE i T hq X sc Wx y C h4) h1 h2
  | .ex e, sp, T, hq, X, sc, Wx, st, C, CS, h => by
    cases st <;> first | (exact absurd h Bool.false_ne_true) | skip
    rename_i v p
    obtain ⟨h1, h2⟩ := and2 (show (noLc v && okE T X.N sc e v) = true from h)
    exact ps_mono (ps_expr (sndE e T hq X sc Wx v C h2) (sw_no h1)) fun D σ H ⟨F, ms, ρ, l, S, E, h⟩ => ⟨F, ms, ρ, l, S, E, (FinO.out E h).mono fun w l1 F1 ms1 H1 t1 S1 z v p => z F1 ms1 H1 σ Stp.refl S1 (E.stp t1)⟩
  | .ret e, sp, T, hq, X, sc, Wx, st, C, CS, h => by
    cases st <;> first | (exact absurd h Bool.false_ne_true) | skip
    rename_i v p
    cases v with
    | none => exact absurd h Bool.false_ne_true
    | some v => exact ret_ps (sndE e T hq X sc Wx v C h)
  | .ifs c a b, sp, T, hq, X, sc, Wx, st, C, CS, h => by
    cases st <;> first | (exact absurd h Bool.false_ne_true) | skip
    rename_i t x y p
    obtain ⟨h12, h3⟩ := and2 (show (okT T X.N sc c t && okSs T X.N sc a x && okSs T X.N sc b y) = true from h)
    obtain ⟨h1, h2⟩ := and2 h12
    refine ps_mono (ps_if (sndT c T hq X sc Wx t C h1) (sndSs a sp T hq X sc Wx x C CS h2) (sndSs b sp T hq X sc Wx y C CS h3)) fun D σ H ⟨F, ms, ρ, l, S, E, h⟩ => ⟨F, ms, ρ, l, S, E, (FinO.out E h).mono fun b l1 F1 ms1 H1 t1 S1 z => ?_⟩
    cases b with
    | true => rw [if_pos rfl]; exact ⟨F1, ms1, ρ, l1, S1, E.stp t1, z⟩
    | false => rw [if_neg Bool.false_ne_true]; exact ⟨F1, ms1, ρ, l1, S1, E.stp t1, z⟩
  | .for tg kk ie body, sp, T, hq, X, sc, Wx, st, C, CS, h => by
    cases st <;> first | (exact absurd h Bool.false_ne_true) | skip
    rename_i t iter b els p
    cases els with
    | cons _ _ => exact absurd h Bool.false_ne_true
    | nil =>
      obtain ⟨h123, h4⟩ := and2 (show (!T.hot && nset iter && okTg X.N sc tg t && okI T X.N sc kk ie iter && okSs T X.N sc body b) = true from h)
      obtain ⟨h12, h3⟩ := and2 h123
      obtain ⟨h01, h2⟩ := and2 h12
      obtain ⟨h0, h1⟩ := and2 h01
      have hh : T.hot = false := by simpa using h0
      exact for_ps (sc := sc) (C.calm hh) CS (sndI kk ie T hq X sc Wx t iter C h3) (tg_pg C.nd (C.calm hh) (owns_of CS C.sc) h2) (sndSs body sp T hq X sc Wx b C CS h4) h1
  | .whl n c body, sp, T, hq, X, sc, Wx, st, C, CS, h => by
    cases st <;> first | (exact absurd h Bool.false_ne_true) | skip
    rename_i t b els p
    cases els with
    | cons _ _ => exact absurd h Bool.false_ne_true
    | nil =>
      obtain ⟨h1, h2⟩ := and2 (show (okT T X.N sc c t && okSs T X.N sc body b) = true from h)
      exact whl_ps CS (sndT c T hq X sc Wx t C h1) (sndSs body sp T hq X sc Wx b C CS h2)
  | .raise c m, sp, T, hq, X, sc, Wx, st, C, CS, h => by
    cases st <;> first | (exact absurd h Bool.false_ne_true) | skip
    rename_i e f p
    cases e with
    | none => exact absurd h Bool.false_ne_true
    | some e =>
      cases e <;> first | (exact absurd h Bool.false_ne_true) | skip
      rename_i fn xs kws p2
      cases fn <;> first | (exact absurd h Bool.false_ne_true) | skip
      rename_i x p3
      match xs, h with
      | [], h => exact absurd h Bool.false_ne_true
      | [y], h =>
        cases y <;> first | (exact absurd h Bool.false_ne_true) | skip
        rename_i kk j p4
        cases kk <;> first | (exact absurd h Bool.false_ne_true) | skip
        rename_i z
        match kws, f, h with
        | [], none, h =>
          obtain ⟨h01, h2⟩ := and2 (show (!T.hot && okG sc x && decide (T.cn[c]? = some x)) = true from h)
          obtain ⟨h0, h1⟩ := and2 h01
          exact raise_ps C (by simpa using h0) h1 (of_decide_eq_true h2)
        | [], some _, h => exact absurd h Bool.false_ne_true
        | _ :: _, _, h => exact absurd h Bool.false_ne_true
      | y :: _ :: _, h =>
        exfalso
        cases y <;> first | (exact absurd h Bool.false_ne_true) | skip
        rename_i kk j p4
        cases kk <;> exact absurd h Bool.false_ne_true
  | .try c e body suite, sp, T, hq, X, sc, Wx, st, C, CS, h => by
    obtain ⟨b, x, nm, np, s0, sr, p1, p2, rfl, hh, ha, h1, h2, h3, h4⟩ := okTry h
    have hb : ∀ (W' : WX) (pn : List (Addr × PySem.Obj)) (xe : Value → Shared → Prop), Takes (X.tr pn xe) W' → PassesOwn (model X.prog X.w) X.A X.env xe → PSs (X.tr pn xe) b (sOf T W' (evSs (cfA T k ak) body)) := fun W' pn xe tk ps =>
      sndSs body sp T hq (X.tr pn xe) sc W' b ⟨C.facts, C.sc, C.nd, C.calm, C.room, C.un, fun _ => tk, C.cold, (fun z => by rw [hh] at z; cases z), fun z => ⟨(C.lam z).has, (C.lam z).room⟩, ⟨C.pw.1, C.pw.2⟩⟩ ⟨CS.stk, CS.frm, ps, CS.own, CS.kind⟩ h3
    match e, nm, ha with
    | none, none, _ => exact try_ps C CS hh h1 h2 hb fun Y hY CY SY => sndSs suite sp T.toHot (fun z => Bool.noConfusion (show false = true from z)) Y sc W0 (s0 :: sr) CY SY (by rw [hY]; exact h4)
    | some i, some n, ha =>
      obtain ⟨a1, a2⟩ := and2 (show (decide (X.N[i]? = some n) && decide (sc.names.lookup n = some .local)) = true from ha)
      exact tryAs_ps C CS hh h1 h2 (of_decide_eq_true a1) (of_decide_eq_true a2) hb fun sv Y hY CY SY => sndSs suite sv T.toHot (fun z => Bool.noConfusion (show false = true from z)) Y sc W0 (s0 :: sr) CY SY (by rw [hY]; exact h4)
    | none, some _, ha => exact absurd ha Bool.false_ne_true
    | some _, none, ha => exact absurd ha Bool.false_ne_true
  | .pass, sp, T, hq, X, sc, Wx, st, C, CS, h => by
    cases st <;> first | (exact absurd h Bool.false_ne_true) | skip
    exact pass_ps
  | .no, sp, T, hq, X, sc, Wx, st, C, CS, h => ⟨fun pins s σ H D I ⟨F, ms, ρ, l, S, E, h⟩ => h.elim⟩
  | .setF f o e, sp, T, hq, X, sc, Wx, st, C, CS, h => by
    cases st <;> first | (exact absurd h Bool.false_ne_true) | skip
    rename_i ts v p
    match ts, h with
    | [], h => exact absurd h Bool.false_ne_true
    | t :: _ :: _, h => exfalso; cases t <;> exact absurd h Bool.false_ne_true
    | [t], h =>
      cases t <;> first | (exact absurd h Bool.false_ne_true) | skip
      rename_i x y p2
      obtain ⟨h1234, h5⟩ := and2 (show (noLc v && decide (T.fn[f]? = some y) && nsup x && okE T X.N sc o x && okE T X.N sc e v) = true from h)
      obtain ⟨h123, h4⟩ := and2 h1234
      obtain ⟨h12, h3⟩ := and2 h123
      obtain ⟨h1, h2⟩ := and2 h12
      exact setF_ps rfl C (sndE e T hq X sc Wx v C h5) (sndE o T hq X sc Wx x C h4) h1 (of_decide_eq_true h2)
  | .par i j a b, sp, T, hq, X, sc, Wx, st, C, CS, h => by
    obtain ⟨x, y, px, py, kt, pt, v, u, k2, pt2, pos, rfl, h⟩ := okPar h
    obtain ⟨h1, h14⟩ := and2 h
    obtain ⟨h1, h13⟩ := and2 h1
    obtain ⟨h1, h12⟩ := and2 h1
    obtain ⟨h1, h11⟩ := and2 h1
    obtain ⟨h1, h10⟩ := and2 h1
    obtain ⟨h1, h9⟩ := and2 h1
    obtain ⟨h1, h8⟩ := and2 h1
    obtain ⟨h1, h7⟩ := and2 h1
    obtain ⟨h1, h6⟩ := and2 h1
    obtain ⟨h1, h5⟩ := and2 h1
    obtain ⟨h1, h4⟩ := and2 h1
    obtain ⟨h1, h3⟩ := and2 h1
    obtain ⟨h1, h2⟩ := and2 h1
    refine par_ps (C.calm (by simpa using h1)) C.nd (of_decide_eq_true h2) (of_decide_eq_true h3) (by simpa using h4) ?_ (by rw [C.sc]; exact of_decide_eq_true h5) (by rw [C.sc]; exact of_decide_eq_true h6) h7 (of_decide_eq_true h8) h9 h10 (by cases q : (foldedForSure 8 v && foldedForSure 8 u); rfl; rw [q] at h11; cases h11) (by cases q : (constantsAlone 8 v && constantsAlone 8 u); rfl; rw [q] at h12; cases h12) (sndE a T hq X sc Wx v C h13) (sndE b T hq X sc Wx u C h14)
    show (if X.env.scope.kind.isAnnotationScope then ScopeKind.function else X.env.scope.kind) = .function
    rw [CS.kind]; rfl
theorem sndSs : ∀ (ir : Sts) (sp : Spv) (T : Tab) (hq : T.ask = true → AskOk T k ak) (X : Cx) (sc : Scope) (Wx : WX) (sts : List Stmt), Cxt T k X sc Wx → CxS X → okSs T X.N sc ir sts = true → PSs X sts (sOf T Wx (evSs (cfA T k ak) ir))
  | .no, sp, T, hq, X, sc, Wx, sts, C, CS, h => ⟨fun pins s σ H D I ⟨F, ms, ρ, l, S, E, h⟩ => h.elim⟩
  | .nil, sp, T, hq, X, sc, Wx, sts, C, CS, h => by
    cases sts with
    | cons _ _ => exact absurd h Bool.false_ne_true
    | nil => exact nil_ps
  | .cons s r, sp, T, hq, X, sc, Wx, sts, C, CS, h => by
    cases sts with
    | nil => exact absurd h Bool.false_ne_true
    | cons st rest =>
      obtain ⟨h1, h2⟩ := and2 (show (okS T X.N sc s st && okSs T X.N sc r rest) = true from h)
      exact cons_ps (sndS s sp T hq X sc Wx st C CS h1) (sndSs r sp T hq X sc Wx rest C CS h2)
end
/-- a def of one value, with replace -/
theorem sndTd {b : Sts} {sts : List Stmt} {X : Cx} {sc : Scope} {Wx : WX} (hq : T.ask = true → AskOk T k ak) (C : Cxt T k X sc Wx) (h : okTd T X.N sc b sts = true) : PSsT X sts (sOf T Wx (evSs (cfA T k ak) b)) := by
  unfold okTd at h
  split at h <;> first | (exact absurd h Bool.false_ne_true) | skip
  rename_i e v pos
  have hv := sndR (ak := ak) hq X sc Wx C (sizeOf e) e v (Nat.le_refl _) h
  have := CwR.psst_one (CwR.pst_ret (pos := pos) hv)
  intro pins s σ H D ht I ⟨F, ms, ρ, l, S, E, q⟩
  refine this pins s σ H D ht I ⟨F, ms, ρ, l, S, E, ?_⟩
  have q' : FinO T Wx F ms H (((evE (cfA T k ak) e ρ l).out ρ fun w l => .rt w l).thn fun ρ l => .nx ρ l) D := q
  cases r : evE (cfA T k ak) e ρ l with
  | bad => rw [r] at q'; exact q'.elim
  | exc c p l1 => rw [r] at q'; exact fun e F' ms' H' t S => q' e F' ms' H' σ t S (E.stp t)
  | ok w l1 => rw [r] at q'; exact fun F' ms' H' t S v pv => q' F' ms' H' v t S pv
end
end Vx

set_option maxHeartbeats 4000000
/-! ### a call that hands a lambda -/
namespace Vx
open PySem PySem.Spec PyProof.Rows L2
variable [tb : Tbs] [sp : Spv]
mutual
theorem conE_ev {cf : Cf} : ∀ (e : Ex) (d : D) (ρ : Env) (l : Loc), conE e = some d → evE cf e ρ l = .ok (.d d) l
  | .c x, d, ρ, l, h => by cases (show some x = some d from h); rfl
  | .tup es, d, ρ, l, h => by
    have h' : ((conL es).bind fun ds => if ds.length ≤ 16777216 then some (D.tup ds) else none) = some d := h
    cases q : conL es with
    | none => rw [q] at h'; cases h'
    | some ds =>
      rw [q] at h'
      have h2 : (if ds.length ≤ 16777216 then some (D.tup ds) else none) = some d := h'
      have e1 := conL_ev (cf := cf) es ds ρ l q
      have e2 : ∀ ds : List D, unW (ds.map .d) = some ds := fun ds => by
        induction ds with
        | nil => rfl
        | cons x r ih => show (unW (r.map .d)).map (x :: ·) = _; rw [ih]; rfl
      split at h2
      · rename_i hz
        cases h2
        show (evL cf es ρ l).bind _ = _
        rw [e1, Res.bind_ok]
        unfold mkTup
        rw [if_pos (by simpa using hz), e2]
      · cases h2
  | .v _, _, _, _, h => nomatch h
  | .g _ _, _, _, _, h => nomatch h
  | .op _ _ _, _, _, _, h => nomatch h
  | .chain _ _ _ _ _, _, _, _, h => nomatch h
  | .and _ _, _, _, _, h => nomatch h
  | .or _ _, _, _, _, h => nomatch h
  | .not _, _, _, _, h => nomatch h
  | .neg _, _, _, _, h => nomatch h
  | .ite _ _ _, _, _, _, h => nomatch h
  | .lst _ _, _, _, _, h => nomatch h
  | .idx _ _, _, _, _, h => nomatch h
  | .sl _ _ _, _, _, _, h => nomatch h
  | .call _ _ _ _, _, _, _, h => nomatch h
  | .bi _ _, _, _, _, h => nomatch h
  | .sm _ _ _, _, _, _, h => nomatch h
  | .lc _ _ _ _ _ _ _, _, _, _, h => nomatch h
  | .frz _, _, _, _, h => nomatch h
  | .dnew, _, _, _, h => nomatch h
  | .dnewF, _, _, _, h => nomatch h
  | .isx _ _, _, _, _, h => nomatch h
  | .tget _ _ _, _, _, _, h => nomatch h
  | .tget2 _ _ _ _, _, _, _, h => nomatch h
  | .tix _ _ _, _, _, _, h => nomatch h
  | .dlget _ _ _, _, _, _, h => nomatch h
  | .act _, _, _, _, h => nomatch h
  | .ask _ _, _, _, _, h => nomatch h
  | .no, _, _, _, h => nomatch h
  | .len _, _, _, _, h => nomatch h
  | .fld _ _, _, _, _, h => nomatch h
  | .meth _ _ _ _ _, _, _, _, h => nomatch h
  | .make _ _, _, _, _, h => nomatch h
  | .thw _, _, _, _, h => nomatch h
  | .srt _, _, _, _, h => nomatch h
  | .kys _, _, _, _, h => nomatch h
  | .dlget1 _ _, _, _, _, h => nomatch h
  | .repl _ _ _, _, _, _, h => nomatch h
  | .max _ _, _, _, _, h => nomatch h
theorem conL_ev {cf : Cf} : ∀ (es : Exs) (ds : List D) (ρ : Env) (l : Loc), conL es = some ds → evL cf es ρ l = .ok (ds.map .d) l
  | .nil, ds, ρ, l, h => by cases (show some [] = some ds from h); rfl
  | .cons e es, ds, ρ, l, h => by
    have h' : ((conE e).bind fun d => (conL es).map (d :: ·)) = some ds := h
    cases q : conE e with
    | none => rw [q] at h'; cases h'
    | some d =>
      cases q2 : conL es with
      | none => rw [q, q2] at h'; cases h'
      | some r =>
        rw [q, q2] at h'
        cases h'
        show (evE cf e ρ l).bind _ = _
        rw [conE_ev e d ρ l q, Res.bind_ok, conL_ev es r ρ l q2]
        rfl
end
theorem okAsk_of {T : Tab} {N : List Str} {sc : Scope} {A : Asker} {b : List Stmt} (h : okAsk T N sc A b = true) :
    ∃ y1 p1 v1 p2 y2 p3 k1 j1 p4 a p5 p6 n1 p7 p8 cx p9 en s0 sr p10 p11 y3 p12 p13,
      b = [.Assign [.Name y1 p1] v1 p2, .Try [.Assign [.Name y2 p3] (.Tuple [.Constant k1 j1 p4, .Call (.Name a p5) [] [] p6] n1 p7) p8] [.ExceptHandler (some (.Name cx p9)) (some en) (s0 :: sr) p10] [] [] p11, .Return (some (.Name y3 p12)) p13] ∧
      okN N sc A.x y1 = true ∧ okN N sc A.x y2 = true ∧ okV N sc A.x y3 = true ∧ noLc v1 = true ∧ okE T.toHot N sc A.init v1 = true ∧ (conE A.init).isSome = true ∧ okC A.told k1 = true ∧ okV N sc 0 a = true ∧ N[A.e]? = some en ∧ sc.names.lookup en = some .local ∧ okG sc cx = true ∧ T.cn[A.c]? = some cx ∧ okSs T.toHot N sc A.suite (s0 :: sr) = true := by
  unfold okAsk at h
  split at h
  · simp only [Bool.and_eq_true, decide_eq_true_eq] at h
    obtain ⟨⟨⟨⟨⟨⟨⟨⟨⟨⟨⟨⟨h1, h2⟩, h3⟩, h4⟩, h5⟩, h6⟩, h7⟩, h8⟩, h9⟩, h10⟩, h11⟩, h12⟩, h13⟩ := h
    exact ⟨_, _, _, _, _, _, _, _, _, _, _, _, _, _, _, _, _, _, _, _, _, _, _, _, _, rfl, h1, h2, h3, h4, h5, h6, h7, h8, h9, h10, h11, h12, h13⟩
  · exact absurd h Bool.false_ne_true
theorem askOf_ne {df : Def} {A : Asker} (h : askOf df = some A) : A.x ≠ 0 ∧ df.np = 1 ∧ A.x < df.nl ∧ A.e < df.nl ∧ noIns A.told = true := by
  unfold askOf at h
  split at h
  · split at h
    · rename_i q
      cases h
      exact ⟨q.2.2.1, q.2.2.2.2.2.1, q.2.2.2.2.2.2.1, q.2.2.2.2.2.2.2.1, q.2.2.2.2.2.2.2.2⟩
    · cases h
  · cases h
section
variable {T : Tab} {k : Nat}
/-- what the asker's return asks -/
abbrev askD (A : Asker) (Q : VK) : Ends := { nx := fun σ H => ∃ v, σ[A.x]? = some (some v) ∧ Q v H, rt := Q }
/-- what it wishes of an exception of the lambda -/
def askE (T : Tab) (A : Asker) (n : Nat) (K : PySem.W.Frag) (cf : Cf) (Q : VK) : XK := fun cls d H2 =>
  ∃ b, PySem.W.exmOne K cls (.ref (T.ca A.c)) = some b ∧ (b = true → ∀ a, H2 a = none → ∀ σ : L2.St, σ.length = n → @sOf _ (svE T a cls d) T.toHot W0 (evSs cf A.suite) { nx := fun σ' H' => (askD A Q).nx (σ'.set A.e none) H', rt := Q } (σ.set A.e (some (.ref a))) H2) ∧ (b = false → False)
/-- what it makes of a value of the lambda -/
def askQ (v0 : V) (Q : VK) : VK := fun v H2 => [v0, v].length ≤ sizeLine ∧ ∀ p, H2 p = none → Q (.ref p) (upd H2 p (.tup [v0, v]))
def askTT (T : Tab) (A : Asker) (n : Nat) (K : PySem.W.Frag) (cf : Cf) (v0 : V) : (XK → Hp → VK → Prop) → Hp → VK → Prop := fun tl H Q =>
  (∀ E1 E2 H Q1 Q2, (∀ c d H, E1 c d H → E2 c d H) → (∀ v H, Q1 v H → Q2 v H) → tl E1 H Q1 → tl E2 H Q2) ∧
  ∃ (F : Gh) (ms : List Addr) (l : Loc), SRel F ms l H ∧ ∀ F1 ms1 H1, Stp F ms H F1 ms1 H1 → SRel F1 ms1 l H1 → tl (askE T A n K cf Q) H1 (askQ v0 Q)
/-- the asker's body -/
theorem ask_gives {X : Cx} {sc : Scope} {Wx : WX} {A : Asker} {N : List Str} {x : Str} {sg : Scope} {g : Addr} {cdv : Value} {b : List Stmt} {a : Str} {v0 : V} {df : Def} (C : Cxt T k X sc Wx) (hh : T.hot = false) (hroom : Room (4 * k + 4) X.A) (SC : FnScope N [a] sg) (hN : df.nl = N.length) (hA : askOf df = some A) (hb : okAsk T N sg A b = true) (h0 : N[0]? = some a)
    (hv0 : ∀ (Y : Cx) (k1 : Const) (j : Nat) (p : Pos), okC A.told k1 = true → PE Y (.Constant k1 j p) (tC v0)) :
    LamX.GivesTo X N x sg g cdv b a (X.env.qual ++ "<lambda>") (askTT T A N.length X.K (cfA T k fun _ _ => .bad) v0) := by
  obtain ⟨y1, p1, v1, p2, y2, p3, k1, j1, p4, a', p5, p6, n1, p7, p8, cx, p9, en, s0, sr, p10, p11, y3, p12, p13, rfl, h1, h2, h3, h4, h5, h6, h7, h8, h9, h10, h11, h12, h13⟩ := okAsk_of hb
  obtain ⟨nx0, _, nx1, ne1, _⟩ := askOf_ne hA
  intro f c' s H Q tl act hc ⟨mono, F, ms, l, S, hT⟩
  have z := C.cold hh
  obtain ⟨d1, hd1⟩ := Option.isSome_iff_exists.mp h6
  obtain ⟨m1, m2, m3, m4, m5⟩ := C.facts.exc A.c cx h12
  have ea : a' = a := by
    have e1 : N[0]? = some a' := by
      unfold okV at h8
      simp only [Bool.and_eq_true, decide_eq_true_eq] at h8
      exact h8.1.1.1
    rw [h0] at e1
    exact (Option.some.inj e1).symm
  subst ea
  -- the context of the body
  let Z : Cx := (cxOf C8.CX0 X.prog X.w X.K X.mg X.base N x sg g cdv X.A X.stack s H C8.E0).nox
  have un : Z.A.units + 100 < cLine := by
    have := (hroom.deeper (envOfC x sg s.heap.objs.size g cdv)).un
    show (X.A.deeper (envOfC x sg s.heap.objs.size g cdv)).units + 100 < cLine
    omega
  have FA := C.facts
  have hZ : ∀ (Y : Cx), Y.prog = X.prog → Y.w = X.w → Y.K = X.K → Y.mg = X.mg → Y.base = X.base → Y.env.scope = sg → Y.N = N → Y.A.units + 100 < cLine → ∀ (sv : Spv), (∀ b c ds, sv.P b c ds → ∃ (o : PySem.Obj) (x : Str), (b, o) ∈ Y.pn ∧ Zc (.ref (T.ca c)) none o ∧ (∃ vs, o.data = .fields vs) ∧ T.cn[c]? = some x) → @Cxt _ sv T.toHot k Y sg W0 := by
    intro Y e1 e2 e3 e4 e5 e6 e7 e8 sv hx
    have pwY : PwOk Y := by have h := @Cxt.pw _ sp _ _ _ _ _ C; exact ⟨by rw [e1]; exact h.1, by rw [e2]; exact h.2⟩
    refine @Cxt.mk _ sv T.toHot k Y sg W0 ?_ e6 (by rw [e7]; exact SC.nd) (fun h => Bool.noConfusion (show true = false from h)) (fun h => Bool.noConfusion (show true = false from h)) e8 (fun h => Bool.noConfusion (show true = false from h)) (fun h => Bool.noConfusion (show true = false from h)) (fun _ => hx) (fun h => Bool.noConfusion (show false = true from h)) pwY
    rw [e1, e2, e3, e4, e5]
    exact @Facts.hotter _ sp sv _ _ _ _ _ _ _ FA
  have CZ : Cxt T.toHot k Z sg W0 := hZ Z rfl rfl rfl rfl rfl rfl rfl un sp fun b c ds q => absurd q (z b c ds)
  have own : Owns Z sg := owns_of (X := Z) ⟨rfl, rfl, PassesOwn.never, rfl, SC.kind⟩ rfl
  have hinit := sndE (k := k) (ak := fun _ _ => .bad) A.init T.toHot (fun h => Bool.noConfusion (show false = true from h)) Z sg W0 v1 CZ h5
  have nm : ∀ {y : Str}, okN N sg A.x y = true → N[A.x]? = some y ∧ L2.Loc sg y := fun {y} h => by
    unfold okN at h
    simp only [Bool.and_eq_true, Bool.or_eq_true, decide_eq_true_eq] at h
    exact ⟨h.1, h.2⟩
  obtain ⟨i1, l1⟩ := nm h1
  obtain ⟨i2, l2⟩ := nm h2
  obtain ⟨i3, vis3, db3, dc3⟩ := vis_of (X := Z) (sc := sg) rfl h3
  obtain ⟨g1, g2⟩ := gl_of (X := Z) (sc := sg) rfl h11
  obtain ⟨_, vis0, db0, dc0⟩ := vis_of (X := Z) (sc := sg) rfl h8
  have hpar : swappedStores [Expr.Name y1 p1] v1 Z.env = pure none := by cases v1 <;> rfl
  refine ⟨_, pss_cons (ps_asg (X := Z) hinit (pg_name (i := A.x) SC.nd i1 l1 (.inl rfl)) (sws_no h4) hpar rfl)
    (pss_cons (ps_try_as (X := Z) (i := A.e) (c := .ref (T.ca A.c)) (Wout := fun _ _ _ _ => False)
      (tb := fun W D σ H => ∃ E' : XK, (∀ cls d σ' H', E' cls d H' → W cls d σ' H') ∧ σ[0]? = some (some (.ref f)) ∧ H c' = some (LamX.CodeO c' (X.env.qual ++ "<lambda>")) ∧ tl E' H (fun v H2 => [v0, v].length ≤ sizeLine ∧ ∀ p, H2 p = none → D.nx (σ.set A.x (some (.ref p))) (upd H2 p (.tup [v0, v]))))
      (ts := fun a cls d D σ H => σ.length = N.length → @sOf _ (svE T a cls d) T.toHot W0 (evSs (cfA T k fun _ _ => .bad) A.suite) D σ H)
      rfl rfl SC.nd h9 h10 ⟨g1, g2, .inl m1⟩ LamX.takes0 (fun W pn xe tk _ => ?_) (fun a oe cls d pn hz hf => ?_))
    (pss_one (ps_ret (pe_var i3 vis3 db3 dc3)))), ?_⟩
  · refine ⟨fun pins s' σ H' D I h' => ?_⟩
    obtain ⟨E', hW, q1, q2, q3⟩ := h'
    have hp := act W pn xe E' p5 p6 tk hW
    have hq := pss_one (ps_asg (pos := p8) (pe_tup (x1 := n1) (pos := p7) (pa_cons (hv0 _ k1 j1 p4 h7) (pa_cons hp pa_nil))) (pg_name (pos := p3) (i := A.x) SC.nd i2 l2 (.inl rfl)) rfl rfl rfl)
    exact hq.run pins s' σ H' D I ⟨q1, q2, q3⟩
  · refine ⟨fun pins s' σ H' D I h' => ?_⟩
    have hY := hZ (Z.suite a ((a, oe) :: pn)) rfl rfl rfl rfl rfl rfl rfl un (svE T a cls d) (svE_ok hz hf)
    have hl : σ.length = N.length := I.len
    exact (sndSs (k := k) (ak := fun _ _ => .bad) A.suite (svE T a cls d) T.toHot (fun h => Bool.noConfusion (show false = true from h)) (Z.suite a ((a, oe) :: pn)) sg W0 (s0 :: sr) hY ⟨rfl, rfl, PassesOwn.never, rfl, SC.kind⟩ h13).run pins s' σ H' D I (h' hl)
  · have hlen : (L2.start N [V.ref f]).length = N.length := by
      have : 0 < N.length := (List.getElem?_eq_some_iff.mp h0).1
      simp [L2.start]; omega
    show tE T.toHot W0 (evE _ A.init) (L2.start N [.ref f]) H _
    refine ⟨F, ms, List.replicate N.length none, l, S, ⟨by simp [hlen], fun i w e => ?_⟩, ?_⟩
    · rw [List.getElem?_replicate] at e
      split at e <;> cases e
    · rw [conE_ev A.init d1 _ _ hd1]
      intro F1 ms1 H1 t1 S1 v pv
      refine ⟨askE T A N.length X.K (cfA T k fun _ _ => .bad) Q, ?_, ?_, t1.keep _ _ hc (S.notCode hc) rfl, ?_⟩
      · rintro cls d σ' H' ⟨b, e1, e2, e3⟩
        refine ⟨b, e1, fun hb a' ha => fun hl => ?_, fun hb => e3 hb⟩
        exact e2 hb a' ha σ' (by simpa using hl)
      · show (List.set (L2.start N [V.ref f]) A.x (some v))[0]? = _
        rw [List.getElem?_set_ne nx0]
        rfl
      · refine mono _ _ _ _ _ (fun _ _ _ h => h) (fun v2 H2 hq => ⟨hq.1, fun p hp => ?_⟩) (hT F1 ms1 H1 t1 S1)
        refine ⟨.ref p, ?_, hq.2 p hp⟩
        have hxl : A.x < N.length := by omega
        show (List.set (List.set (L2.start N [V.ref f]) A.x (some v)) A.x (some (V.ref p)))[A.x]? = _
        rw [List.getElem?_set_self (by rw [List.length_set, hlen]; exact hxl)]
theorem Fin.mono2 {α : Type} {E E' : XK} {F : Gh} {ms : List Addr} {H : Hp} {r : Res α} {K K' : α → Loc → Gh → List Addr → Hp → Prop} (h : Fin T E F ms H r K) (e : ∀ c d H, E c d H → E' c d H) (k : ∀ a l F' ms' H', K a l F' ms' H' → K' a l F' ms' H') : Fin T E' F ms H r K' := by
  cases r with
  | ok a l => exact fun F' ms' H' t S => k _ _ _ _ _ (h F' ms' H' t S)
  | exc c p l => exact fun z F' ms' H' t S => e _ _ _ (h z F' ms' H' t S)
  | bad => exact h
theorem noPs_of {ps : Arguments} (h : noPs ps = true) : ps = ⟨[], [], none, [], [], none, []⟩ := by
  obtain ⟨a, b, c, d, e, f, g⟩ := ps
  cases a <;> cases b <;> cases c <;> cases d <;> cases e <;> cases f <;> cases g <;> first | rfl | exact absurd h Bool.false_ne_true
theorem ask_val {P : Pt} {fn : Nat → List W → Loc → Res W} {g : Nat} {df : Def} {A : Asker} (q : P.dfs[g]? = some df) (q2 : askOf df = some A) (r : Res W) : ask P fn g r = match r with
    | .ok (.d x) l => if noIns x = true then .ok (.d (.tup [A.told, x])) l else .bad
    | .exc c' p l => match P.sub c' A.c with
      | some true => (match outS A.e (List.replicate df.nl none) l (evSs ⟨fn, P.sub, fun _ _ => .bad, P.fl, P.mt, P.ini⟩ A.suite ((List.replicate df.nl none).set A.e (some (.d (.ins c' [p])))) l) with
        | .nx ρ l => (ret (slotV ρ A.x) l).bind fun w l => match w with
          | .d x => .ok (.d x) l
          | .r _ => .bad
        | _ => .bad)
      | _ => .bad
    | _ => .bad := by
  unfold ask
  rw [q]
  dsimp only
  unfold askR
  rw [q2] <;> rfl
/-- g(lambda: body) -/
theorem ask_ok (ha : T.ask = true) (hh : T.hot = false) : AskOk T k (ask T.pt (Vx.call T.pt k)) := by
  intro g body X sc Wx x p lpos pos ps lb scope C hg hf hl hp hB
  have ev : ∀ ρ l, evE (cfA T k (ask T.pt (Vx.call T.pt k))) (.ask g body) ρ l = ask T.pt (Vx.call T.pt k) g (evE (cfA T k (ask T.pt (Vx.call T.pt k))) body ρ l) := fun _ _ => rfl
  have none_case : (∀ r, ask T.pt (Vx.call T.pt k) g r = .bad) → PE X (.Call (.Name x p) [.Lambda ps lb scope lpos] [] pos) (tE T Wx (evE (cfA T k (ask T.pt (Vx.call T.pt k))) (.ask g body))) := fun hb => ⟨fun pins s σ H Q I ⟨F, ms, ρ, l, S, E, h⟩ => by
    rw [ev, hb] at h
    exact h.elim⟩
  cases q : T.dfs[g]? with
  | none => exact none_case fun r => by unfold ask; rw [q]
  | some df =>
    cases q2 : askOf df with
    | none => exact none_case fun r => by unfold ask; rw [q]; dsimp only; unfold askR; rw [q2]
    | some A =>
      obtain ⟨st, N, FD, pl, SC, hps, hnl, hb⟩ := C.facts.df g x df A hf q q2
      obtain ⟨nx0, hnp, nx1, ne1, nt⟩ := askOf_ne q2
      obtain ⟨y1, p1, v1, p2, y2, p3, k1, j1, p4, a, p5, p6, n1, p7, p8, cx, p9, en, s0, sr, p10, p11, y3, p12, p13, eb, h1, h2, h3, h4, h5, h6, h7, h8, h9, h10, h11, h12, h13⟩ := okAsk_of hb
      obtain ⟨oc, od, dV, kV, doc, pm, an, cdv, ct, osl, hfd, lk, hcd, _, _⟩ := FD.ex
      have mg := C.facts.gl g x hf
      obtain ⟨mk, mb0⟩ := C.facts.kp g _ hf
      obtain ⟨ds0, hds0, mb⟩ := mb0 0 (Nat.zero_le _)
      cases hds0
      obtain ⟨g1, g2⟩ := gl_of C.sc hg
      obtain ⟨⟨c, P, TB, hcode, hmT, hu⟩, hroom⟩ := C.lam ha
      obtain ⟨h0, db0, dc0⟩ : N[0]? = some a ∧ (a == ("__debug__" : Str)) = false ∧ (a == ("__classdict__" : Str)) = false := by
        unfold okV at h8
        simp only [Bool.and_eq_true, decide_eq_true_eq, Bool.not_eq_true'] at h8
        exact ⟨h8.1.1.1, h8.1.2, h8.2⟩
      have hpa : T.ps g = [a] := by
        rw [hps, hnp]
        cases N with
        | nil => simp at h0
        | cons y r => simp at h0; subst h0; rfl
      rw [hpa] at SC mb
      have vis0 : Vis (defScope st) a := SC.par a List.mem_cons_self |>.elim .inl fun z => .inr (.inl z)
      rw [hfd] at lk mb
      obtain ⟨v0, _, hv0r⟩ := const_rep (F := ⟨fun _ => none, fun _ _ => none⟩) (ms := []) (v := .non) (j := j1) (pos := p4) (X := X) h7
      have hv0 : ∀ (Y : Cx) (k1 : Const) (j : Nat) (p : Pos), okC A.told k1 = true → PE Y (.Constant k1 j p) (tC v0) := by
        intro Y k2 j p hk
        obtain ⟨v2, hp2, hr2⟩ := const_rep (F := ⟨fun _ => none, fun _ _ => none⟩) (ms := []) (v := .non) (j := j) (pos := p) (X := Y) hk
        have e1 := hv0r sp ⟨fun _ => none, fun _ _ => none⟩
        have e2 := hr2 sp ⟨fun _ => none, fun _ _ => none⟩
        have : v2 = v0 := by
          cases hA : A.told <;> rw [hA] at e1 e2 hk
          · exact (show v2 = V.non from e2).trans (show v0 = V.non from e1).symm
          · exact (show v2 = V.bl _ from e2).trans (show v0 = V.bl _ from e1).symm
          · exact (show v2 = V.int _ from e2).trans (show v0 = V.int _ from e1).symm
          · exact (show v2 = V.str _ from e2).trans (show v0 = V.str _ from e1).symm
          all_goals (cases k2 <;> exact absurd hk Bool.false_ne_true)
        subst this
        exact hp2
      have z := C.cold hh
      have L : LamX.LamS X.env.scope scope := LamX.lamS_by (by rw [C.sc]; exact hl)
      have eps := noPs_of hp
      subst eps
      have facts' := C.facts.plain hh
      have hG := ask_gives (A := A) (N := N) (x := x) (sg := defScope st) (g := T.fa g) (cdv := cdv) (b := defBody st) (a := a) (v0 := v0) (df := df) C hh hroom SC hnl q2 hb h0 hv0
      refine pe_mono (LamX.pe_lamcall (T := Tbs.T) (k := 4 * k + 2) (t := fun E => tE T.plain (fun cls d _ H => E cls d H) (evE (cfA T k (ask T.pt (Vx.call T.pt k))) body)) g1 mg mk lk hcd mb SC h0 vis0 hG TB hcode hmT hu hroom L rfl (fun q cl pm cv ctv => rfl) (fun A' outer s H E f c' hr => ?_) g2 db0 dc0) ?_
      · refine hB _ _ rfl ⟨facts', rfl, C.nd, fun _ => rfl, fun _ => hr, (show (A'.deeper (LamX.lamEnv X scope s.heap.objs.size f c')).units + 100 < cLine from by have := hr.un; omega), fun _ => takes_of rfl rfl rfl rfl, fun _ => z, (fun w => Bool.noConfusion (show false = true from w)), (fun w => Bool.noConfusion (show false = true from w)), ⟨C.pw.1, C.pw.2⟩⟩
      · intro σ H Q ⟨F, ms, ρ, l, S, E, h⟩
        refine ⟨S.tabs, fun H1 eN T1 => ⟨fun E1 E2 H Q1 Q2 e1 e2 ⟨F0, ms0, ρ0, l0, S0, En0, h0⟩ => ⟨F0, ms0, ρ0, l0, S0, En0, h0.mono2 e1 fun _ _ _ _ _ w v pv => e2 _ _ (w v pv)⟩, F, ms, l, S.tab eN T1, fun F1 ms1 H2 t1 S1 => ?_⟩⟩
        have t0 := (Stp.tab (F := F) (ms := ms) eN).trans t1
        refine ⟨F1, ms1, ρ, l, S1, E.stp t0, ?_⟩
        rw [ev] at h
        rw [ask_val q q2] at h
        cases r : evE (cfA T k (ask T.pt (Vx.call T.pt k))) body ρ l with
        | bad => rw [r] at h; exact h.elim
        | ok w l1 =>
          rw [r] at h
          cases w with
          | r n => exact h.elim
          | d x0 =>
            dsimp only at h
            split at h
            · intro F3 ms3 H3 t3 S3 v pv
              refine ⟨by rw [line_eq]; simp, fun p hp => ?_⟩
              have tl := Stp.lay (o := .tup [v0, v]) S3 hp
              refine h _ ms3 _ ((t0.trans t3).trans tl) (S3.lay hp) _ ?_
              show Rep _ _ (.tup [A.told, x0])
              unfold Rep
              exact ⟨p, _, rfl, upg_same, RepL.cons (hv0r sp _) (RepL.cons (Rep.mono tl.sub _ _ pv) RepL.nil)⟩
            · exact h.elim
        | exc c' pp l1 =>
          rw [r] at h
          dsimp only at h
          intro ep F3 ms3 H3 t3 S3
          cases qs : T.pt.sub c' A.c with
          | none => rw [qs] at h; exact h.elim
          | some bb =>
            rw [qs] at h
            cases bb with
            | false => exact h.elim
            | true =>
              refine ⟨true, C.facts.exm c' A.c true qs, fun _ a' ha' σ' hl' => ?_, fun w => nomatch w⟩
              have E0 : EnvR F3 ms3 (List.replicate df.nl none) σ' := ⟨by simp [hnl, hl'], fun i w e => by
                rw [List.getElem?_replicate] at e
                split at e <;> cases e⟩
              have pe : @Rp (svE T a' (.ref (T.ca c')) none) F3 ms3 (.ref a') (.d (.ins c' [pp])) := by
                show @Rep (svE T a' (.ref (T.ca c')) none) F3 (.ref a') (.ins c' [pp])
                unfold Rep
                exact ⟨a', rfl, rfl, rfl, rfl, C.facts.sbn c' A.c true qs⟩
              have Eu := @EnvR.set _ (svE T a' (.ref (T.ca c')) none) _ _ _ _ _ _ (@EnvR.up _ sp (svE T a' (.ref (T.ca c')) none) _ _ _ _ z E0) pe A.e
              refine ⟨F3, ms3, _, l1, @SRel.up _ sp (svE T a' (.ref (T.ca c')) none) _ _ _ _ z S3, Eu, ?_⟩
              refine out_suite (X := X) (T := T) (Wx := Wx) (F0 := F) (ms0 := ms) (H0 := H) (D := askD A Q) z (t0.trans t3) S3 E0 (σ'.set A.e (some (.ref a'))) (by simp) ?_
              dsimp only at h
              cases ro : outS A.e (List.replicate df.nl none) l1 (evSs (cfA T k fun _ _ => .bad) A.suite ((List.replicate df.nl none).set A.e (some (.d (.ins c' [pp])))) l1) with
              | nx ρ3 l3 =>
                rw [ro] at h
                dsimp only at h
                cases rs : slotV ρ3 A.x with
                | none => rw [rs] at h; exact h.elim
                | some w =>
                  rw [rs] at h
                  simp only [ret_some, Res.bind_ok] at h
                  cases w with
                  | r n => exact h.elim
                  | d x3 =>
                    intro F4 ms4 H4 σ4 t4 S4 E4
                    have es : ρ3[A.x]? = some (some (.d x3)) := by
                      unfold slotV at rs
                      split at rs
                      · rename_i u eu
                        cases rs
                        exact eu
                      · cases rs
                    obtain ⟨v, ev4, rv⟩ := E4.at_ _ _ es
                    exact ⟨v, ev4, h F4 ms4 H4 t4 S4 v rv⟩
              | rt w l3 => rw [ro] at h; exact h.elim
              | bk ρ3 l3 => rw [ro] at h; exact h.elim
              | ct ρ3 l3 => rw [ro] at h; exact h.elim
              | exc c2 p2 ρ3 l3 => rw [ro] at h; exact h.elim
              | bad => rw [ro] at h; exact h.elim
end
end Vx

set_option maxHeartbeats 4000000
/-! ### the program -/
namespace Vx
open PySem PySem.Spec PyProof.Rows L2
variable [tb : Tbs]
instance coldSpv : Spv := noSpv
/-- a printed program -/
structure Pg where
  dfs : List Def
  /-- a def's place: a name of the module; a class, its method -/
  at_ : List (Str × Option Str)
  N : List (List Str)
  st : List Stmt
  /-- how many parameters have None for default -/
  nd : List Nat
  cn : List Str
  con : List (Str × D)
  sub : List (Nat × Nat × Bool)
  /-- the defs that hand lambdas -/
  lam : List Nat := []
  /-- dicts of the module with text keys -/
  tb : List (Str × List (Tx × D)) := []
  /-- own classes, their fields in order; names of fields, of methods -/
  kn : List Str := []
  cf : List (List Str) := []
  fn : List Str := []
  mn : List Str := []
  md : List Nat := []
  /-- class, field, place; class, method, def; class, __init__ -/
  fl : List (Nat × Nat × Nat) := []
  mt : List (Nat × Nat × Nat) := []
  ini : List (Nat × Nat) := []
def noFd : FuncData := PySem.W.fnOf "" "" (defArgs (.Pass ⟨0, 0, 0, 0⟩)) [] (defScope (.Pass ⟨0, 0, 0, 0⟩)) .none .none .none .none none .none .none
def atNm (q : Str × Option Str) : Option Str := match q.2 with
  | none => some q.1
  | some _ => none
def atX (q : Str × Option Str) : Str := match q.2 with
  | none => q.1
  | some m => m
def atQ (q : Str × Option Str) : Str := match q.2 with
  | none => q.1
  | some m => q.1 ++ "." ++ m
def Pg.ps (p : Pg) (f : Nat) : List Str := match p.dfs[f]? with
  | some df => (p.N.getD f []).take df.np
  | none => []
def look3 {α : Type} (l : List (Nat × Nat × α)) (a b : Nat) : Option α := (l.find? fun q => q.1 == a && q.2.1 == b).map (·.2.2)
def Pg.subF (p : Pg) : Nat → Nat → Option Bool := look3 p.sub
def Pg.pt (p : Pg) : Pt := ⟨p.dfs, p.subF, look3 p.fl, look3 p.mt, fun c => p.ini.lookup c⟩
def Pg.tab (p : Pg) (K : PySem.W.Frag) (fd : Nat → FuncData) : Tab where
  pt := p.pt
  nm := p.at_.map atNm
  nd := fun f => p.nd.getD f 0
  fn := p.fn
  mn := p.mn
  md := fun m => p.md.getD m 0
  kn := p.kn
  ps := p.ps
  con := fun x => p.con.lookup x
  cn := p.cn
  fa := fun f => He.fAd K (p.at_.getD f ("", none))
  fd := fd
  ca := fun c => He.ga K (p.cn.getD c "")
  tb := fun x => p.tb.lookup x
def frees : List Str := ["len", "abs", "int", "isinstance", "range", "str", "bool", "list", "tuple", "ValueError", "dict", "sorted", "set", "enumerate", "zip", "min", "max"]
def mkD (q : Str × Option Str) (s : Stmt) (n : Nat) : He.DefD := ⟨q, atX q, atQ q, defArgs s, defBody s, defScope s, List.replicate n .non, []⟩
def conFa : Str × D → He.Fa
  | (x, .int i) => .int x i
  | (x, .str z) => .str x (sx z)
  | (x, _) => .glo x
def Pg.fns (p : Pg) : List He.DefD := (p.at_.zip (p.st.zip p.nd)).map fun q => mkD q.1 q.2.1 q.2.2
def Pg.fas (p : Pg) : List He.Fa := [(p.at_.filterMap atNm).map He.Fa.glo, p.cn.map He.Fa.glo, frees.map He.Fa.free, p.cn.map He.Fa.exc, p.con.map conFa, p.sub.map (fun q => He.Fa.exm (p.cn.getD q.1 "") (p.cn.getD q.2.1 "") q.2.2), p.tb.map (fun q => He.Fa.glo q.1),
  p.kn.map He.Fa.glo, p.kn.map He.Fa.cls, (p.kn.zip p.cf).flatMap (fun q => q.2.map fun f => He.Fa.noat q.1 f), p.mt.map (fun q => He.Fa.meth (p.kn.getD q.1 "") (p.mn.getD q.2.1 "")), p.ini.map (fun q => He.Fa.mkr (p.kn.getD q.1 ""))].flatten
/-! the checks -/
def scopeB (N P : List Str) (sc : Scope) : Bool :=
  decide (sc.kind = .function) && !sc.isCoroutine && !sc.isGenerator && decide N.Nodup && decide (N.take P.length = P) && P.all (fun x => decide (sc.names.lookup x = some .local) || decide (sc.names.lookup x = some .cell)) && sc.names.all fun y => decide (y.2 ≠ .free)
theorem scopeB_ok {N P : List Str} {sc : Scope} (h : scopeB N P sc = true) : FnScope N P sc := by
  obtain ⟨h123456, h7⟩ := and2 h
  obtain ⟨h12345, h6⟩ := and2 h123456
  obtain ⟨h1234, h5⟩ := and2 h12345
  obtain ⟨h123, h4⟩ := and2 h1234
  obtain ⟨h12, h3⟩ := and2 h123
  obtain ⟨h1, h2⟩ := and2 h12
  refine ⟨of_decide_eq_true h1, by simpa using h2, by simpa using h3, of_decide_eq_true h4, of_decide_eq_true h5, fun x hx => ?_, fun y hy => ?_⟩
  · have := List.all_eq_true.mp h6 x hx
    simpa using this
  · exact of_decide_eq_true (List.all_eq_true.mp h7 y hy)
/-- one def -/
def chkA (T : Tab) (df : Def) (N : List Str) (s : Stmt) : Bool := match askOf df with
  | some A => okAsk T N (defScope s) A (defBody s)
  | none => true
def chkD (T : Tab) (b : Bool) (df : Def) (N : List Str) (s : Stmt) : Bool := scopeB N (N.take df.np) (defScope s) && decide (df.nl = N.length) && Nat.ble df.np N.length && (okSs { T with ask := b } N (defScope s) df.body (defBody s) || (okTd { T with ask := b } N (defScope s) df.body (defBody s) && ((defScope s).names.all fun y => decide (y.2 ≠ .cell)) && Nat.blt 0 (N.take df.np).length)) && chkA T df N s
def chkAll (T : Tab) (lam : List Nat) : Nat → List Def → List (List Str) → List Stmt → Bool
  | _, [], [], [] => true
  | f, df :: dfs, N :: Ns, s :: ss => chkD T (lam.contains f) df N s && chkAll T lam (f + 1) dfs Ns ss
  | _, _, _, _ => false
theorem chkAll_at {T : Tab} {lam : List Nat} : ∀ {g : Nat} {dfs : List Def} {Ns : List (List Str)} {ss : List Stmt}, chkAll T lam g dfs Ns ss = true → dfs.length = ss.length ∧ ∀ (f : Nat) (s : Stmt), ss[f]? = some s → ∃ df N, dfs[f]? = some df ∧ Ns[f]? = some N ∧ chkD T (lam.contains (g + f)) df N s = true
  | _, [], [], [], _ => ⟨rfl, fun f s e => by simp at e⟩
  | _, [], [], _ :: _, h => absurd h Bool.false_ne_true
  | _, [], _ :: _, _, h => absurd h Bool.false_ne_true
  | _, _ :: _, [], _, h => absurd h Bool.false_ne_true
  | _, _ :: _, _ :: _, [], h => absurd h Bool.false_ne_true
  | g, df :: dfs, N :: Ns, s :: ss, h => by
    obtain ⟨h1, h2⟩ := and2 (show (chkD T (lam.contains g) df N s && chkAll T lam (g + 1) dfs Ns ss) = true from h)
    obtain ⟨i1, i2⟩ := chkAll_at h2
    refine ⟨by simp [i1], fun f s' e => ?_⟩
    cases f with
    | zero => cases e; exact ⟨df, N, rfl, rfl, h1⟩
    | succ f =>
      have := i2 f s' e
      have e1 : g + 1 + f = g + (f + 1) := by omega
      rw [e1] at this
      exact this
/-- the classes -/
def clsB (p : Pg) : Bool :=
  p.cf.all (fun l => decide l.Nodup && Nat.blt l.length 1000) && decide (p.kn.length = p.cf.length) &&
  p.fl.all (fun q => Nat.blt q.1 p.kn.length && decide ((p.cf.getD q.1 [])[q.2.2]?.isSome) && decide (p.fn[q.2.1]? = (p.cf.getD q.1 [])[q.2.2]?)) &&
  p.mt.all (fun q => Nat.blt q.1 p.kn.length && Nat.blt q.2.1 p.mn.length && decide (p.at_[q.2.2]? = some (p.kn.getD q.1 "", some (p.mn.getD q.2.1 ""))) && !((p.cf.getD q.1 []).contains (p.mn.getD q.2.1 "")) && Nat.ble (p.md.getD q.2.1 0) (p.nd.getD q.2.2 0)) &&
  p.ini.all (fun q => Nat.blt q.1 p.kn.length && decide (p.at_[q.2]? = some (p.kn.getD q.1 "", some ("__init__" : Str)))) &&
  (p.dfs.zip p.nd).all (fun q => (askOf q.1).isNone || Nat.beq q.2 0)
/-- what a checked def gives -/
structure Chk (T : Tab) (b : Bool) (df : Def) (N : List Str) (s : Stmt) : Prop where
  sc : FnScope N (N.take df.np) (defScope s)
  nl : df.nl = N.length
  np : df.np ≤ N.length
  body : okSs { T with ask := b } N (defScope s) df.body (defBody s) = true ∨ (okTd { T with ask := b } N (defScope s) df.body (defBody s) = true ∧ (∀ y ∈ (defScope s).names, y.2 ≠ .cell) ∧ 1 ≤ (N.take df.np).length)
  ask : ∀ A, askOf df = some A → okAsk T N (defScope s) A (defBody s) = true
theorem chkD_ok {T : Tab} {b : Bool} {df : Def} {N : List Str} {s : Stmt} (h : chkD T b df N s = true) : Chk T b df N s := by
  obtain ⟨h1234, h5⟩ := and2 h
  obtain ⟨h123, h4⟩ := and2 h1234
  obtain ⟨h12, h3⟩ := and2 h123
  obtain ⟨h1, h2⟩ := and2 h12
  refine ⟨scopeB_ok h1, of_decide_eq_true h2, Nat.le_of_ble_eq_true h3, ?_, fun A e => ?_⟩
  · rcases Bool.or_eq_true_iff.mp h4 with h | h
    · exact .inl h
    · obtain ⟨a12, a3⟩ := and2 h
      obtain ⟨a1, a2⟩ := and2 a12
      exact .inr ⟨a1, fun y hy => of_decide_eq_true (List.all_eq_true.mp a2 y hy), Nat.le_of_ble_eq_true a3⟩
  unfold chkA at h5
  rw [e] at h5
  exact h5
def conB : List (Str × D) → Bool
  | [] => true
  | (_, .int _) :: r => conB r
  | (_, .str _) :: r => conB r
  | _ => false
theorem conB_at : ∀ {l : List (Str × D)} {x : Str} {d : D}, conB l = true → l.lookup x = some d → (x, d) ∈ l ∧ ((∃ i, d = .int i) ∨ ∃ z, d = .str z)
  | [], x, d, h, e => by cases e
  | (y, c) :: r, x, d, h, e => by
    have hc : ((∃ i, c = .int i) ∨ ∃ z, c = .str z) ∧ conB r = true := by
      cases c <;> first | (exact absurd h Bool.false_ne_true) | skip
      · exact ⟨.inl ⟨_, rfl⟩, h⟩
      · exact ⟨.inr ⟨_, rfl⟩, h⟩
    rw [List.lookup_cons] at e
    split at e
    · rename_i q
      cases e
      have q' : x = y := by simpa using q
      subst q'
      exact ⟨List.mem_cons_self, hc.1⟩
    · obtain ⟨i1, i2⟩ := conB_at hc.2 e
      exact ⟨List.mem_cons_of_mem _ i1, i2⟩
theorem has_fact {fa : List He.Fa} {fn : List He.DefD} {K : PySem.W.Frag} (c : He.SaysD fa fn K) {f : He.Fa} (h : f ∈ fa) : f.ok K = true := by
  obtain ⟨i, hi, e⟩ := List.getElem_of_mem h
  exact c.fact i (f := f) (by rw [List.getElem?_eq_getElem hi, e])
theorem has_def {fa : List He.Fa} {fn : List He.DefD} {K : PySem.W.Frag} (c : He.SaysD fa fn K) {d : He.DefD} (h : d ∈ fn) : ∃ fd, FunD K d.name d.qual d.params d.body d.scope (d.dvs K) (d.kws K) (He.fAd K d.at_) fd := by
  obtain ⟨i, hi, e⟩ := List.getElem_of_mem h
  exact c.def_ i (d := d) (by rw [List.getElem?_eq_getElem hi, e])
theorem zip_at {α β : Type} {l : List α} {r : List β} {i : Nat} {a : α} {b : β} (h1 : l[i]? = some a) (h2 : r[i]? = some b) : (a, b) ∈ l.zip r := by
  apply List.mem_of_getElem? (i := i)
  rw [List.getElem?_zip_eq_some]
  exact ⟨h1, h2⟩
theorem startR {F : Gh} {ms : List Addr} {vs : List V} {ws : List W} {n : Nat} {N : List Str} (p : RpL F ms vs ws) (hn : n = N.length) : EnvR F ms (startE n ws) (L2.start N vs) where
  len := by
    have := p.len
    simp [startE, L2.start, hn, this]
  at_ := fun i w e => by
    have hl := p.len
    by_cases h : i < ws.length
    · rw [startE, List.getElem?_append_left (by simpa using h)] at e
      rw [List.getElem?_map] at e
      cases q : ws[i]? with
      | none => rw [q] at e; cases e
      | some w' =>
        rw [q] at e
        cases e
        obtain ⟨v, hv, r⟩ := p.get q
        refine ⟨v, ?_, r⟩
        rw [L2.start, List.getElem?_append_left (by simp [hl, h]), List.getElem?_map, hv]
        rfl
    · rw [startE, List.getElem?_append_right (by simp; omega), List.getElem?_replicate] at e
      split at e <;> cases e
theorem fin_out {T : Tab} {E : XK} {F : Gh} {ms : List Addr} {H : Hp} {o : Out} {Q : VK} (h : Fin T E F ms H o.res (kE Q)) : FinO T (fun c d _ H => E c d H) F ms H o { nx := fun _ H' => Q .non H', rt := Q } := by
  cases o with
  | nx ρ l => exact fun F' ms' H' σ t S E => h F' ms' H' t S .non rfl
  | rt w l => exact fun F' ms' H' v t S p => h F' ms' H' t S v p
  | exc c p ρ l => exact fun e F' ms' H' σ t S E => h e F' ms' H' t S
  | bk ρ l => exact h.elim
  | ct ρ l => exact h.elim
  | bad => exact h.elim
section
variable {P : Program} {w : World} {K : PySem.W.Frag} {mg : Str → Option Value} {base : Heap} {p : Pg} {fd : Nat → FuncData}
/-- what a def's arguments come to: nd of its parameters have None for default -/
def plainD (s : Stmt) (ps : List Str) : Nat → Prop
  | 0 => plainB s ps
  | n + 1 => ∀ (j : Nat), j ≤ n + 1 → ∀ (x qual : Str) (body : List Stmt) (scope : Scope) (T : Addr) (kV doc pm : Value) (an : Option Addr) (cdv ct : Value) (us its : List Value), us.length + (n + 1 - j) = ps.length → its.length = n + 1 →
    ∃ k, bindArgs (PySem.W.fnOf x qual (defArgs s) body scope (.ref T) kV doc pm an cdv ct) ⟨us, []⟩ = seqItems? (.ref T) >>= k ∧ k (some its.toArray) = pure (ps.zip (us ++ its.drop j))
abbrev FD (K : PySem.W.Frag) (q : Str × Option Str) (s : Stmt) (n : Nat) (fd : FuncData) : Prop := FunD K (atX q) (atQ q) (defArgs s) (defBody s) (defScope s) (List.replicate n V.non) [] (He.fAd K q) fd
theorem FD.binds {K : PySem.W.Frag} {q : Str × Option Str} {s : Stmt} {fd : FuncData} {ps : List Str} : ∀ {n : Nat} (F : FD K q s n fd) (h : plainD s ps n) (hp : n ≤ ps.length) (d : Nat), d ≤ n → ∃ ds, Vals (List.replicate d V.non) ds ∧ Binds K fd ps ds
  | 0, F, h, _, d, hd => by
    have e : d = 0 := by omega
    subst e
    exact ⟨[], .nil, F.bindsN fun kV doc pm an cdv ct us hu => h _ _ _ _ kV doc pm an cdv ct us hu⟩
  | n + 1, F, h, hp, d, hd => by
    obtain ⟨ds, h1, h2⟩ := F.binds1 (ps := ps) (ps.length - d) (n + 1 - d) (by simp) (by simp; omega) fun T kV doc pm an cdv ct us its hu hi =>
      h (n + 1 - d) (by omega) _ _ _ _ T kV doc pm an cdv ct us its (by omega) (by simpa using hi)
    refine ⟨ds, ?_, h2⟩
    have e : (List.replicate (n + 1) V.non).drop (n + 1 - d) = List.replicate d V.non := by
      rw [List.drop_replicate]
      congr 1
      omega
    rw [← e]
    exact h1
/-- what holds of the program whatever the depth -/
structure Stat (p : Pg) (w : World) (K : PySem.W.Frag) (mg : Str → Option Value) (fd : Nat → FuncData) : Prop where
  fun_ : ∀ (f : Nat) (q : Str × Option Str) (s : Stmt) (n : Nat), p.at_[f]? = some q → p.st[f]? = some s → p.nd[f]? = some n → FD K q s n (fd f)
  plain : ∀ (f : Nat) (s : Stmt) (n : Nat), p.st[f]? = some s → p.nd[f]? = some n → plainD s (p.ps f) n ∧ n ≤ (p.ps f).length
  len : p.at_.length = p.st.length
  lnd : p.nd.length = p.st.length
  chk : chkAll (p.tab K fd) p.lam 0 p.dfs p.N p.st = true
  cls : clsB p = true
  glo : ∀ (f : Nat) (x : Str), p.at_[f]? = some (x, none) → mg x = some (.ref (He.ga K x))
  con : ∀ (x : Str) (d : D), p.con.lookup x = some d → ∃ u v, mg x = some u ∧ RelV v u ∧ ∀ (sp : Spv) (F : Gh), @Rep sp F v d
  fr : ∀ x ∈ frees, mg x = none
  exc : ∀ (c : Nat) (x : Str), p.cn[c]? = some x → mg x = some (.ref (He.ga K x)) ∧ PySem.W.excIn K (He.ga K x) He.veBase "ValueError.__new__" = true ∧ PySem.W.keepIn K (.ref (He.ga K x)) = true ∧
    PySem.W.subIn K (.ref (He.ga K x)) (.type "BaseException") = some true ∧ PySem.W.typeIn K (.ref (He.ga K x)) = some (.type "type")
  xc : ∀ (c : Nat) (x : Str), p.cn[c]? = some x → ExcC K (He.ga K x)
  kit : ∀ (c c' : Nat) (b : Bool), p.subF c c' = some b → PySem.W.kitOne K (.ref (He.ga K (p.cn.getD c ""))) (.ref (He.ga K (p.cn.getD c' ""))) = some b
  sbn : ∀ (c c' : Nat) (b : Bool), p.subF c c' = some b → ∃ x, p.cn[c]? = some x
  exm : ∀ (c c' : Nat) (b : Bool), p.subF c c' = some b → PySem.W.exmOne K (.ref (He.ga K (p.cn.getD c ""))) (.ref (He.ga K (p.cn.getD c' ""))) = some b
  tabs : ∀ (x : Str) (kvs : List (Tx × D)), p.tb.lookup x = some kvs → KTab K w mg x kvs
  tcl : ∀ c, Tbs.cl c = He.ga K (p.kn.getD c "")
  tfn : ∀ c, Tbs.fn c = p.cf.getD c []
  kglo : ∀ x ∈ p.kn, mg x = some (.ref (He.ga K x))
  kcls : ∀ x ∈ p.kn, Cls K (He.ga K x)
  noat : ∀ (c : Nat) (f : Str), f ∈ p.cf.getD c [] → NoAttr K (He.ga K (p.kn.getD c "")) f
  meth : ∀ q ∈ p.mt, Meth K (He.ga K (p.kn.getD q.1 "")) (p.mn.getD q.2.1 "") (He.ma K (He.ga K (p.kn.getD q.1 "")) (p.mn.getD q.2.1 ""))
  mkr : ∀ q ∈ p.ini, Mk K (He.ga K (p.kn.getD q.1 "")) (He.ma K (He.ga K (p.kn.getD q.1 "")) "__init__")
omit tb in
theorem getD_of {α : Type} {l : List α} {i : Nat} {a d : α} (h : l[i]? = some a) : l.getD i d = a := by
  rw [List.getD_eq_getElem?_getD, h]; rfl
omit tb in
theorem look3_mem {α : Type} {l : List (Nat × Nat × α)} {a b : Nat} {x : α} (h : look3 l a b = some x) : (a, b, x) ∈ l := by
  unfold look3 at h
  cases q : l.find? (fun q => q.1 == a && q.2.1 == b) with
  | none => rw [q] at h; cases h
  | some r =>
    rw [q] at h
    cases h
    have h1 := List.find?_some q
    have h2 := List.mem_of_find?_eq_some q
    simp only [Bool.and_eq_true, beq_iff_eq] at h1
    obtain ⟨a, b, d⟩ := r
    obtain ⟨rfl, rfl⟩ := h1
    exact h2
omit tb in
theorem lookup_mem {α β : Type} [BEq α] [LawfulBEq α] : ∀ {l : List (α × β)} {x : α} {b : β}, l.lookup x = some b → (x, b) ∈ l
  | [], _, _, h => by cases h
  | (y, c) :: r, x, b, h => by
    rw [List.lookup_cons] at h
    split at h
    · rename_i q
      cases h
      have q' : x = y := by simpa using q
      subst q'
      exact List.mem_cons_self
    · exact List.mem_cons_of_mem _ (lookup_mem h)
/-- what a def is -/
theorem Stat.at_ (S : Stat p w K mg fd) {f : Nat} {q : Str × Option Str} (h : p.at_[f]? = some q) : ∃ s n df N, p.st[f]? = some s ∧ p.nd[f]? = some n ∧ p.dfs[f]? = some df ∧ FD K q s n (fd f) ∧ plainD s (p.ps f) n ∧ n ≤ (p.ps f).length ∧ p.ps f = N.take df.np ∧ Chk (p.tab K fd) (p.lam.contains f) df N s := by
  have hl : f < p.st.length := by
    rw [← S.len]
    exact (List.getElem?_eq_some_iff.mp h).1
  have hl2 : f < p.nd.length := by rw [S.lnd]; exact hl
  have hs : p.st[f]? = some (p.st[f]'hl) := List.getElem?_eq_getElem hl
  have hn : p.nd[f]? = some (p.nd[f]'hl2) := List.getElem?_eq_getElem hl2
  obtain ⟨c1, c2⟩ := chkAll_at S.chk
  obtain ⟨df, N, e1, e2, e3⟩ := c2 f _ hs
  rw [Nat.zero_add] at e3
  obtain ⟨p1, p2⟩ := S.plain f _ _ hs hn
  refine ⟨_, _, df, N, hs, hn, e1, S.fun_ f q _ _ h hs hn, p1, p2, ?_, chkD_ok e3⟩
  unfold Pg.ps
  rw [e1]
  dsimp only
  rw [getD_of e2]
theorem Stat.nm (S : Stat p w K mg fd) {f : Nat} {o : Option Str} (h : (p.tab K fd).nm[f]? = some o) : ∃ q, p.at_[f]? = some q ∧ o = atNm q ∧ (p.tab K fd).fa f = He.fAd K q := by
  have h' : (p.at_.map atNm)[f]? = some o := h
  rw [List.getElem?_map] at h'
  cases q : p.at_[f]? with
  | none => rw [q] at h'; cases h'
  | some r =>
    rw [q] at h'
    cases h'
    exact ⟨r, rfl, rfl, congrArg (He.fAd K) (getD_of q)⟩
theorem Stat.clsA (S : Stat p w K mg fd) : p.cf.all (fun l => decide l.Nodup && Nat.blt l.length 1000) = true ∧ p.kn.length = p.cf.length ∧
  p.fl.all (fun q => Nat.blt q.1 p.kn.length && decide ((p.cf.getD q.1 [])[q.2.2]?.isSome) && decide (p.fn[q.2.1]? = (p.cf.getD q.1 [])[q.2.2]?)) = true ∧
  p.mt.all (fun q => Nat.blt q.1 p.kn.length && Nat.blt q.2.1 p.mn.length && decide (p.at_[q.2.2]? = some (p.kn.getD q.1 "", some (p.mn.getD q.2.1 ""))) && !((p.cf.getD q.1 []).contains (p.mn.getD q.2.1 "")) && Nat.ble (p.md.getD q.2.1 0) (p.nd.getD q.2.2 0)) = true ∧
  p.ini.all (fun q => Nat.blt q.1 p.kn.length && decide (p.at_[q.2]? = some (p.kn.getD q.1 "", some ("__init__" : Str)))) = true ∧ (p.dfs.zip p.nd).all (fun q => (askOf q.1).isNone || Nat.beq q.2 0) = true := by
  have h := S.cls
  unfold clsB at h
  obtain ⟨h12345, h6⟩ := and2 h
  obtain ⟨h1234, h5⟩ := and2 h12345
  obtain ⟨h123, h4⟩ := and2 h1234
  obtain ⟨h12, h3⟩ := and2 h123
  obtain ⟨h1, h2⟩ := and2 h12
  exact ⟨h1, of_decide_eq_true h2, h3, h4, h5, h6⟩
theorem Stat.facts (S : Stat p w K mg fd) (k : Nat) (b : Bool) (ih : ∀ (f : Nat) (q : Str × Option Str), p.at_[f]? = some q → FnOk P w K mg base (L2.CX P w) (4 * k + 1) (He.fAd K q) (fd f) (p.ps f) (spF (p.tab K fd) k f)) : Facts { p.tab K fd with ask := b } P w K mg base k where
  fn := fun _ f o h => by
    obtain ⟨q, h1, _, e⟩ := S.nm h
    show FnOk P w K mg base (L2.CX P w) (4 * k + 1) ((p.tab K fd).fa f) (fd f) (p.ps f) (spF (p.tab K fd) k f)
    rw [e]
    exact ih f q h1
  gl := fun f x h => by
    obtain ⟨q, h1, h2, e⟩ := S.nm h
    obtain ⟨q1, q2⟩ := q
    cases q2 with
    | some _ => cases h2
    | none =>
      have e2 : x = q1 := Option.some.inj h2
      subst e2
      show mg x = some (.ref ((p.tab K fd).fa f))
      rw [e]
      exact S.glo f x h1
  kp := fun f o h => by
    obtain ⟨q, h1, h2, e⟩ := S.nm h
    obtain ⟨s, n, df, N, hs, hn, e1, F, pl, hp, _, _⟩ := S.at_ h1
    show PySem.W.keepIn K (.ref ((p.tab K fd).fa f)) = true ∧ ∀ d, d ≤ p.nd.getD f 0 → ∃ ds, Vals (List.replicate d V.non) ds ∧ Binds K (fd f) (p.ps f) ds
    rw [e, getD_of hn]
    exact ⟨F.kp, fun d hd => FD.binds F pl hp d hd⟩
  fld := fun c f i h => by
    obtain ⟨c1, c2, c3, c4, c5, c6⟩ := S.clsA
    have m := look3_mem (show look3 p.fl c f = some i from h)
    obtain ⟨h12, h3⟩ := and2 (List.all_eq_true.mp c3 _ m)
    obtain ⟨h1, h2⟩ := and2 h12
    have hc : c < p.kn.length := by simpa [Nat.blt_eq] using h1
    have e3 := of_decide_eq_true h3
    have e2 := of_decide_eq_true h2
    obtain ⟨x, hx⟩ := Option.isSome_iff_exists.mp e2
    have hcf : c < p.cf.length := by omega
    have hg : p.cf.getD c [] = p.cf[c] := by rw [List.getD_eq_getElem?_getD, List.getElem?_eq_getElem hcf]; rfl
    obtain ⟨g1, g2⟩ := and2 (List.all_eq_true.mp c1 _ (List.getElem_mem hcf))
    have hkn : p.kn.getD c "" ∈ p.kn := by rw [List.getD_eq_getElem?_getD, List.getElem?_eq_getElem hc]; exact List.getElem_mem hc
    refine ⟨x, e3.trans hx, by rw [S.tfn]; exact hx, by rw [S.tfn, hg]; exact of_decide_eq_true g1, by rw [S.tcl]; exact S.noat c x (List.mem_of_getElem? hx), by rw [S.tcl]; exact S.kcls _ hkn, by rw [S.tfn, hg]; simpa [Nat.blt_eq] using g2⟩
  mth := fun c m g h => by
    obtain ⟨c1, c2, c3, c4, c5, c6⟩ := S.clsA
    have mm := look3_mem (show look3 p.mt c m = some g from h)
    obtain ⟨h1234, h5⟩ := and2 (List.all_eq_true.mp c4 _ mm)
    obtain ⟨h123, h4⟩ := and2 h1234
    obtain ⟨h12, h3⟩ := and2 h123
    obtain ⟨h1, h2⟩ := and2 h12
    have hc : c < p.kn.length := by simpa [Nat.blt_eq] using h1
    have hm : m < p.mn.length := by simpa [Nat.blt_eq] using h2
    have hkn : p.kn.getD c "" ∈ p.kn := by rw [List.getD_eq_getElem?_getD, List.getElem?_eq_getElem hc]; exact List.getElem_mem hc
    have e3 := of_decide_eq_true h3
    have e : (p.tab K fd).fa g = He.fAd K (p.kn.getD c "", some (p.mn.getD m "")) := congrArg (He.fAd K) (getD_of e3)
    refine ⟨Nat.le_of_ble_eq_true h5, p.mn.getD m "", ?_, ?_, by rw [S.tcl]; exact S.kcls _ hkn, ?_, none, ?_⟩
    · show p.mn[m]? = _
      rw [List.getD_eq_getElem?_getD, List.getElem?_eq_getElem hm]; rfl
    · rw [S.tfn]
      intro hx
      rw [List.contains_iff_mem.mpr hx] at h4
      cases h4
    · show Meth K (Tbs.cl c) _ ((p.tab K fd).fa g)
      rw [S.tcl, e]
      exact S.meth _ mm
    · show (p.at_.map atNm)[g]? = _
      rw [List.getElem?_map, e3]; rfl
  mkr := fun c g x h hx => by
    obtain ⟨c1, c2, c3, c4, c5, c6⟩ := S.clsA
    have mm := lookup_mem (show p.ini.lookup c = some g from h)
    obtain ⟨h1, h2⟩ := and2 (List.all_eq_true.mp c5 _ mm)
    have e2 := of_decide_eq_true h2
    have hx' : p.kn[c]? = some x := hx
    have ek : p.kn.getD c "" = x := getD_of hx'
    have e : (p.tab K fd).fa g = He.fAd K (p.kn.getD c "", some ("__init__" : Str)) := congrArg (He.fAd K) (getD_of e2)
    refine ⟨?_, ?_, none, ?_⟩
    · rw [S.tcl, ek]
      exact S.kglo x (List.mem_of_getElem? hx')
    · show Mk K (Tbs.cl c) ((p.tab K fd).fa g)
      rw [S.tcl, e]
      exact S.mkr _ mm
    · show (p.at_.map atNm)[g]? = _
      rw [List.getElem?_map, e2]; rfl
  con := S.con
  fr := S.fr
  exc := fun c x h => by
    have e : (p.tab K fd).ca c = He.ga K x := congrArg (He.ga K) (getD_of h)
    have h2 := S.exc c x h
    rw [← e] at h2
    exact h2
  xc := fun c x h => by
    have e : (p.tab K fd).ca c = He.ga K x := congrArg (He.ga K) (getD_of h)
    have h2 := S.xc c x h
    rw [← e] at h2
    exact h2
  kit := S.kit
  sbn := S.sbn
  df := fun f x d A h h' hA => by
    obtain ⟨q, h1, h2, e⟩ := S.nm h
    obtain ⟨q1, q2⟩ := q
    cases q2 with
    | some _ => cases h2
    | none =>
      have e2 : x = q1 := Option.some.inj h2
      subst e2
      obtain ⟨c1, c2, c3, c4, c5, c6⟩ := S.clsA
      obtain ⟨s, n, df, N, hs, hn, e1, F, pl, hp, e2, C⟩ := S.at_ h1
      have h'' : p.dfs[f]? = some d := h'
      rw [e1] at h''
      cases h''
      have hz := List.all_eq_true.mp c6 _ (zip_at e1 hn)
      have hn0 : n = 0 := by
        rw [hA] at hz
        simpa using hz
      subst hn0
      refine ⟨s, N, ?_, pl, ?_, e2, C.nl, C.ask A hA⟩
      · show FunD K x x (defArgs s) (defBody s) (defScope s) [] [] ((p.tab K fd).fa f) (fd f)
        rw [e]
        exact F
      · show FnScope N (p.ps f) (defScope s)
        rw [e2]
        exact C.sc
  np := fun f df h => by
    have h' : p.dfs[f]? = some df := h
    show df.np = (p.ps f).length
    have hl : f < p.st.length := by
      rw [← (chkAll_at S.chk).1]
      exact (List.getElem?_eq_some_iff.mp h').1
    have hn : f < p.at_.length := by rw [S.len]; exact hl
    obtain ⟨s, n, df', N, hs, hn2, e1, F, pl, hp, e2, C⟩ := S.at_ (List.getElem?_eq_getElem hn)
    rw [h'] at e1
    cases e1
    rw [e2, List.length_take]
    have := C.np
    omega
  exm := S.exm
  tabs := S.tabs
/-- the tables of the defs that hand lambdas -/
def LamT (p : Pg) (mg : Str → Option Value) (base : Heap) (fd : Nat → FuncData) : Prop := ∀ (f : Nat) (q : Str × Option Str), p.lam.contains f = true → p.at_[f]? = some q → ∃ c Q : Addr, LamX.TabB base mg c Q ∧ (fd f).code = .ref c ∧ (Q, atQ q ++ ".<locals>." ++ "<lambda>") ∈ Tbs.T ∧ ∀ r ∈ Tbs.T, r.1 = Q → r.2 = atQ q ++ ".<locals>." ++ "<lambda>"
/-- every def keeps its promise -/
theorem Stat.ok (S : Stat p w K mg fd) (L : LamT p mg base fd) (hP : Tbs.P = P) (hw : Tbs.w = w) : ∀ (k f : Nat) (q : Str × Option Str), p.at_[f]? = some q → FnOk P w K mg base (L2.CX P w) (4 * k + 1) (He.fAd K q) (fd f) (p.ps f) (spF (p.tab K fd) k f)
  | 0, f, x, h => by
    have no : ∀ {vs : List V} {H : Hp} {Q : VK} {E : XK}, spF (p.tab K fd) 0 f vs H Q E → False := fun ⟨_, F, ms, l, ws, S, r, z⟩ => z
    exact ⟨fun vs H Q E z => (no z).elim, fun A outer s H args us vs Q E _ _ _ _ z => (no z).elim⟩
  | k + 1, f, x, h => by
    obtain ⟨s, n, df, N, hs, hn, e1, F, pl, hp, hps, C⟩ := S.at_ h
    have FX := S.facts (P := P) (w := w) (base := base) k (p.lam.contains f) fun g y hy => S.ok L hP hw k g y hy
    have hsc := C.sc
    obtain ⟨oc, od, dV, kV, doc, pm, an, cdv, ct, osl, hfd, lk, hcd, _, _⟩ := F.ex
    rw [hps, hfd]
    rw [hfd] at lk
    have hlen9 : ∀ (vs : List V) (H : Hp) (Q : VK) (E : XK), spF (p.tab K fd) (k + 1) f vs H Q E → vs.length = (N.take df.np).length := fun vs H Q E z => by
      have := z.1
      have e : (p.tab K fd).ps f = N.take df.np := hps
      rw [e] at this
      exact this
    have hc : ∀ (ws : List W) (l : Loc), Vx.call p.pt (k + 1) f ws l = if ws.length = df.np then (evSs (cfK p.pt k) df.body (startE df.nl ws) l).res else .bad := fun ws l => by
      show (match p.dfs[f]? with
        | some df => if ws.length = df.np then (evSs (cfK p.pt k) df.body (startE df.nl ws) l).res else .bad
        | none => .bad) = _
      rw [e1]
    have hcx : ∀ (A : Around) (outer : List PySem.Env) (s' : Shared) (H : Hp) (E : XK), Room (4 * k + 4) (A.deeper (envOfC (atQ x) (defScope s) s'.heap.objs.size (He.fAd K x) cdv)) →
        Cxt { p.tab K fd with ask := p.lam.contains f } k (cxOf (L2.CX P w) P w K mg base N (atQ x) (defScope s) (He.fAd K x) cdv A outer s' H E) (defScope s) (fun c d _ H => E c d H) := fun A outer s' H E hr =>
      ⟨FX, rfl, hsc.nd, fun _ => rfl, fun _ => hr.mono (by omega), (show (A.deeper (envOfC (atQ x) (defScope s) s'.heap.objs.size (He.fAd K x) cdv)).units + 100 < cLine from by have := hr.un; omega), fun _ => takes_of rfl rfl rfl rfl, fun _ _ _ _ z => z, (fun z => Bool.noConfusion (show false = true from z)), fun ha => ⟨by
        obtain ⟨c, Q', TB, hco, hm, hu⟩ := L f x ha h
        rw [hfd] at hco
        exact ⟨c, Q', TB, hco, hm, hu⟩, hr⟩, ⟨hP.symm, hw.symm⟩⟩
    rcases C.body with hbody | ⟨hbody, hnc, h1⟩
    · refine fn_of (k := 4 * k + 4) lk hcd hsc hlen9 (fun A outer s' H vs Q E hr z => ?_)
      obtain ⟨hlen, F0, ms, l, ws, S0, r, fin⟩ := z
      have fin : Fin (p.tab K fd) E F0 ms H (Vx.call p.pt (k + 1) f ws l) (kE Q) := fin
      rw [hc] at fin
      split at fin
      · refine ⟨sOf { p.tab K fd with ask := p.lam.contains f } (fun c d _ H => E c d H) (evSs (cfK p.pt k) df.body), ?_, F0, ms, startE df.nl ws, l, S0, startR r C.nl, fin_out fin⟩
        exact sndSs (ak := ask p.pt (Vx.call p.pt k)) df.body coldSpv { p.tab K fd with ask := p.lam.contains f } (fun ha => ask_ok (T := { p.tab K fd with ask := p.lam.contains f }) ha rfl) _ (defScope s) _ _ (hcx A outer s' H E hr) ⟨rfl, rfl, passes_of rfl, rfl, hsc.kind⟩ hbody
      · exact fin.elim
    · refine fn_ofT (k := 4 * k + 4) lk hcd hsc hnc h1 hlen9 (fun A outer s' H vs Q E hr z => ?_)
      obtain ⟨hlen, F0, ms, l, ws, S0, r, fin⟩ := z
      have fin : Fin (p.tab K fd) E F0 ms H (Vx.call p.pt (k + 1) f ws l) (kE Q) := fin
      rw [hc] at fin
      split at fin
      · refine ⟨sOf { p.tab K fd with ask := p.lam.contains f } (fun c d _ H => E c d H) (evSs (cfK p.pt k) df.body), ?_, F0, ms, startE df.nl ws, l, S0, startR r C.nl, fin_out fin⟩
        exact sndTd (ak := ask p.pt (Vx.call p.pt k)) (T := { p.tab K fd with ask := p.lam.contains f }) (fun ha => ask_ok (T := { p.tab K fd with ask := p.lam.contains f }) ha rfl) (hcx A outer s' H E hr) hbody
      · exact fin.elim
end
end Vx

set_option maxHeartbeats 4000000
/-! ### the end -/
namespace Vx
open PySem PySem.Spec PyProof.Rows L2
/-! a hook whose facts hold no list, no empty table -/
theorem and2' {a b : Bool} (h : (a && b) = true) : a = true ∧ b = true := Bool.and_eq_true_iff.mp h
def notLst (o : PySem.Obj) : Bool := match o.cls with
  | .type n => !(n == "list")
  | _ => true
def okLG (o : PySem.Obj) : Bool := notLst o && !He.emptyTab o
def noLg (g : Addr → Option PySem.Obj) (a : Addr) : Option PySem.Obj := match g a with
  | some o => (match okLG o with
    | true => some o
    | false => none)
  | none => none
theorem noLg_at {g : Addr → Option PySem.Obj} {a : Addr} {o : PySem.Obj} (h : noLg g a = some o) : g a = some o ∧ okLG o = true := by
  unfold noLg at h
  cases q : g a with
  | none => rw [q] at h; cases h
  | some u =>
    rw [q] at h
    dsimp only at h
    cases q2 : okLG u with
    | false => rw [q2] at h; cases h
    | true => rw [q2] at h; cases h; exact ⟨rfl, q2⟩
/-- more facts: of the exception classes, of pairs of them -/
def excB (K : PySem.W.Frag) (x : Str) : Bool :=
  decide (PySem.W.findIn K (.ref (He.ga K x)) "__getattribute__" = some (some (.builtin "BaseException.__getattribute__"))) && decide (PySem.W.findIn K (.ref (He.ga K x)) "__getattr__" = some none) &&
  decide (PySem.W.subIn K (.ref (He.ga K x)) (.type "BaseException") = some true) && PySem.W.hasDictIn K (He.ga K x) && decide (PySem.W.findIn K (.ref (He.ga K x)) "__class__" = some (some (.builtin "object.__class__"))) &&
  decide (PySem.W.specialIn K (.builtin "object.__class__") "__get__" = some (some (.builtin "getset_descriptor.__get__"))) && decide (PySem.W.takesIn K (.builtin "object.__class__") = some true) && decide (PySem.W.mroIn K (He.ga K x) (.type "object") = some true)
theorem excB_ok {K : PySem.W.Frag} {x : Str} (h : excB K x = true) : ExcC K (He.ga K x) := by
  unfold excB at h
  simp only [Bool.and_eq_true, decide_eq_true_eq] at h
  obtain ⟨⟨⟨⟨⟨⟨⟨h1, h2⟩, h3⟩, h4⟩, h5⟩, h6⟩, h7⟩, h8⟩ := h
  exact ⟨h1, h2, h3, h4, h5, h6, h7, h8⟩
def kitB (K : PySem.W.Frag) (x y : Str) (b : Bool) : Bool := decide (PySem.W.kitOne K (.ref (He.ga K x)) (.ref (He.ga K y)) = some b)
/-- a table of the module -/
def dV : D → V
  | .int i => .int i
  | .str z => .str (sx z)
  | _ => .non
def tabB (K : PySem.W.Frag) (q : Str × List (Tx × D)) : Bool := q.2.all fun r => (match r.2 with
  | .int _ => true
  | .str _ => true
  | _ => false) && match PySem.W.nsIn K (He.ga K q.1) (sx r.1) with
    | some (some u) => He.relB (dV r.2) u
    | _ => false
def tkeys (q : Str × List (Tx × D)) : List Str := q.2.map fun r => sx r.1
theorem find_no {P : Params} {z : Str} : ∀ {l : List DictEntry} {ks : List Str}, l.map He.keyOf = He.keysIn P ks → z ∉ ks → l.find? (·.key.isStr z) = none ∧ l.any (·.refKey) = false
  | [], _, _, _ => ⟨rfl, rfl⟩
  | e :: r, [], h, _ => by cases h
  | e :: r, k :: ks, h, hz => by
    have h1 : He.keyOf e :: r.map He.keyOf = some (k, PyData.keyHash P k) :: He.keysIn P ks := h
    injection h1 with h2 h3
    obtain ⟨i1, i2⟩ := find_no h3 fun z' => hz (List.mem_cons_of_mem _ z')
    unfold He.keyOf at h2
    split at h2
    · rename_i x t q
      obtain ⟨h5, h6⟩ := Prod.mk.inj (Option.some.inj h2)
      have hne : (x == z) = false := by
        rw [beq_eq_false_iff_ne]
        intro e'
        exact hz (by rw [← e', h5]; exact List.mem_cons_self)
      have e1 : e.key.isStr z = false := by
        rw [q, PySem.W.isStr_of]
        exact hne
      have e2 : e.refKey = false := by
        unfold DictEntry.refKey
        rw [q]
      exact ⟨by rw [List.find?_cons, e1]; exact i1, by rw [List.any_cons, e2, i2]; rfl⟩
    · cases h2
theorem ktab_of {K : PySem.W.Frag} {w : World} {mg : Str → Option Value} {q : Str × List (Tx × D)} (hm : mg q.1 = some (.ref (He.ga K q.1))) (h1 : tabB K q = true) (h2 : He.dicW K (He.ga K q.1) = some (He.keysIn w.params (tkeys q))) : KTab K w mg q.1 q.2 := by
  obtain ⟨es, n, D0⟩ := He.dicW_ok h2
  refine ⟨_, es, n, hm, D0, fun z => ?_⟩
  have h3 : es.toList.map He.keyOf = He.keysIn w.params (tkeys q) := by
    unfold He.dicW at h2
    rw [D0.at_] at h2
    dsimp only at h2
    split at h2
    · exact Option.some.inj h2
    · cases h2
  cases q2 : tabV q.2 z with
  | none =>
    have hz : sx z ∉ tkeys q := fun hm' => by
      obtain ⟨r, hr, e⟩ := List.mem_map.mp hm'
      have e' : r.1 = z := by
        have := congrArg TL.tl e
        rwa [tl_sx, tl_sx] at this
      unfold tabV at q2
      cases q3 : q.2.find? (fun q => q.1 == z) with
      | some _ => rw [q3] at q2; cases q2
      | none =>
        have := List.find?_eq_none.mp q3 r hr
        simp [e'] at this
    obtain ⟨f1, f2⟩ := find_no h3 hz
    dsimp only
    unfold PySem.W.nsIn
    rw [D0.at_]
    dsimp only
    rw [f1, f2]
    rfl
  | some dv =>
    dsimp only
    unfold tabV at q2
    cases q3 : q.2.find? (fun q => q.1 == z) with
    | none => rw [q3] at q2; cases q2
    | some r =>
      rw [q3] at q2
      cases q2
      have hr := List.mem_of_find?_eq_some q3
      have hz : r.1 = z := by
        have := List.find?_some q3
        simpa using this
      obtain ⟨g1, g2⟩ := and2' (List.all_eq_true.mp h1 r hr)
      rw [hz] at g2
      cases q4 : PySem.W.nsIn K (He.ga K q.1) (sx z) with
      | none => rw [q4] at g2; cases g2
      | some o =>
        rw [q4] at g2
        cases o with
        | none => cases g2
        | some u =>
          refine ⟨u, dV r.2, rfl, He.relB_ok g2, fun sp F => ?_⟩
          obtain ⟨r1, r2⟩ := r
          cases r2 <;> first | (exact absurd g1 Bool.false_ne_true) | skip
          · rfl
          · rfl
/-- what else is looked at -/
structure Xt where
  cn : List Str
  kit : List (Str × Str × Bool)
  tf : List He.Defn
  tb : List (Str × List (Tx × D)) := []
def Xt.ok (t : Xt) (K : PySem.W.Frag) : Bool := t.cn.all (excB K) && ((t.kit.all fun q => kitB K q.1 q.2.1 q.2.2) && t.tb.all (tabB K))
abbrev AlY : Type := He.AlD × Bool × List (Option (List (Option (Str × Int))))
def valY (fn : List He.DefD) (t : Xt) (w : World) : AlY := (He.valD fn, true, t.tb.map fun q => some (He.keysIn w.params (tkeys q)))
def obsXK (fa : List He.Fa) (fn : List He.DefD) (t : Xt) (g : Addr → Option PySem.Obj) (K : PySem.W.Frag) : AlY := (He.obsD fa fn K, t.ok K && He.tabsB g t.tf K, t.tb.map fun q => He.dicW K (He.ga K q.1))
def obsXG (n : Nat) (fa : List He.Fa) (fn : List He.DefD) (t : Xt) (g : Addr → Option PySem.Obj) : AlY := obsXK fa fn t g (He.frG (noLg g) (He.asD g n))
structure SaysY (fa : List He.Fa) (fn : List He.DefD) (t : Xt) (w : World) (h : Heap) (K : PySem.W.Frag) : Prop where
  kin : K.In h
  d : He.SaysD fa fn K
  nl : ∀ a o, K.lookup a = some o → notLst o = true
  ok : t.ok K = true
  hd : ∀ p ∈ t.tf, PySem.W.codeHdIn K (He.cT K p).1 (He.cT K p).2 = true
  out : ∀ p ∈ t.tf, K.lookup (He.cT K p).2 = none
  empty : ∀ p ∈ t.tf, h.get? (He.cT K p).2 = some { cls := .none, data := .fields #[] }
  tb : (t.tb.map fun q => He.dicW K (He.ga K q.1)) = t.tb.map fun q => some (He.keysIn w.params (tkeys q))
theorem saysY_of {n : Nat} {fa : List He.Fa} {fn : List He.DefD} {t : Xt} {w : World} {h : Heap} (e : obsXG n fa fn t h.get? = valY fn t w) : SaysY fa fn t w h (He.frG (noLg h.get?) (He.asD h.get? n)) := by
  have at_ : ∀ {a o}, (He.frG (noLg h.get?) (He.asD h.get? n)).lookup a = some o → h.get? a = some o ∧ okLG o = true := fun z => noLg_at (He.frG_at _ z)
  have e2 : (t.ok (He.frG (noLg h.get?) (He.asD h.get? n)) && He.tabsB h.get? t.tf (He.frG (noLg h.get?) (He.asD h.get? n))) = true := congrArg (fun z : AlY => z.2.1) e
  obtain ⟨h1, h2⟩ := and2' e2
  have tab : ∀ p ∈ t.tf, PySem.W.codeHdIn (He.frG (noLg h.get?) (He.asD h.get? n)) (He.cT (He.frG (noLg h.get?) (He.asD h.get? n)) p).1 (He.cT (He.frG (noLg h.get?) (He.asD h.get? n)) p).2 = true ∧ h.get? (He.cT (He.frG (noLg h.get?) (He.asD h.get? n)) p).2 = some { cls := .none, data := .fields #[] } := fun p hp => by
    obtain ⟨h3, h4⟩ := and2' (List.all_eq_true.mp h2 p hp)
    refine ⟨h3, ?_⟩
    cases q : h.get? (He.cT (He.frG (noLg h.get?) (He.asD h.get? n)) p).2 with
    | none =>
      rw [q] at h4
      cases h4
    | some o =>
      rw [q] at h4
      rw [He.emptyTab_eq h4]
  refine ⟨fun a o z => (at_ z).1, congrArg (fun z : AlY => z.1) e, fun a o z => (and2' (at_ z).2).1, h1, fun p hp => (tab p hp).1, fun p hp => ?_, fun p hp => (tab p hp).2, congrArg (fun z : AlY => z.2.2) e⟩
  cases q : (He.frG (noLg h.get?) (He.asD h.get? n)).lookup (He.cT (He.frG (noLg h.get?) (He.asD h.get? n)) p).2 with
  | none => rfl
  | some o =>
    exfalso
    obtain ⟨q1, q2⟩ := at_ q
    have q3 := (tab p hp).2
    rw [q1] at q3
    cases q3
    exact absurd q2 (by decide)
def hookX (n : Nat) (fa : List He.Fa) (fn : List He.DefD) (t : Xt) : PySem.W.Hook where
  α := AlY
  obs := fun s => obsXG n fa fn t s.heap.get?
  val := fun w => valY fn t w
  says := fun w h => ∃ K : PySem.W.Frag, SaysY fa fn t w h K
  of := fun _ _ e => ⟨_, saysY_of e⟩
  keeps := fun _ _ _ ⟨K, c⟩ k => ⟨K, PySem.W.Frag.In.keeps c.kin k, c.d, c.nl, c.ok, c.hd, c.out, fun p hp => k _ _ (c.empty p hp), c.tb⟩
theorem obsXG_eq {n : Nat} {fa : List He.Fa} {fn : List He.DefD} {t : Xt} {g : Addr → Option PySem.Obj} {s : Shared} (h : ∀ a, g a = s.heap.get? a) : obsXG n fa fn t g = (hookX n fa fn t).obs s := by
  have e : g = s.heap.get? := funext h
  rw [e] <;> rfl
theorem cx_no {P : Program} {w : World} (H : Hp) (s : Shared) (e : Value) (s' : Shared) (h : L2.CX P w [] H s (fun _ _ _ => False) e s') : False := by
  obtain ⟨_, _, _, _, _, _, _, _, _, _, _, _, z⟩ := h
  exact z
section
variable [tb : Tbs]
variable {K : PySem.W.Frag} {H : Hp}
/-- the script -/
theorem script_rel (T0 : LamX.Tabs Tbs.T H) {a : Addr} {ns : List Int} (hS : SqL K H a (ns.map V.int)) (nl : ∀ a o, K.lookup a = some o → notLst o = true) : SRel ⟨upd (fun _ => none) a (.lst (ns.map V.int)), fun _ _ => none⟩ [] [] H ∧ RpL ⟨upd (fun _ => none) a (.lst (ns.map V.int)), fun _ _ => none⟩ [] [.ref a] [.d (.lst (ns.map D.int))] := by
  have hR : Rd H a (.lst (ns.map V.int)) := by
    rcases hS with h | ⟨o, its, n, h1, h2, _⟩
    · exact h
    · exfalso
      have := nl a o h1
      unfold notLst at this
      rw [h2] at this
      exact absurd this (by decide)
  refine ⟨⟨rfl, List.nodup_nil, fun b o e => ?_, (fun n a o e => by cases e), fun b o e => ?_, T0, fun _ _ _ e => nomatch e⟩, ⟨?_, trivial⟩⟩
  · have e : upd (fun _ => none) a (HO.lst (ns.map V.int)) b = some o := e
    by_cases q : b = a
    · subst q
      rw [upd_same] at e
      cases e
      exact hR
    · rw [upd_ne q] at e
      cases e
  · have e : upd (fun _ => none) a (HO.lst (ns.map V.int)) b = some o := e
    by_cases q : b = a
    · subst q
      rw [upd_same] at e
      cases e
      rfl
    · rw [upd_ne q] at e
      cases e
  · show Rep _ (.ref a) (.lst (ns.map D.int))
    unfold Rep
    refine ⟨a, ns.map V.int, rfl, (show upd (fun _ => none) a (HO.lst (ns.map V.int)) a = _ from upd_same), ?_⟩
    clear hS hR
    generalize (⟨upd (fun _ => none) a (HO.lst (ns.map V.int)), fun _ _ => none⟩ : Gh) = F
    induction ns with
    | nil => exact RepL.nil
    | cons i r ih => exact RepL.cons rfl ih
end
theorem spF_law [tb : Tbs] {T : Tab} {K : PySem.W.Frag} {k f : Nat} {H : Hp} {a : Addr} {ns : List Int} {l' : Loc} (T0 : LamX.Tabs Tbs.T H) (hl : (T.ps f).length = 1) (hS : SqL K H a (ns.map V.int)) (nl : ∀ a o, K.lookup a = some o → notLst o = true)
    (h : Vx.call T.pt k f [.d (.lst (ns.map D.int))] [] = .ok (.d (.bl true)) l') : spF T k f [.ref a] H (fun v _ => v = .bl true) fun _ _ _ => False := by
  obtain ⟨S, r⟩ := script_rel T0 hS nl
  refine ⟨by rw [hl]; rfl, _, [], [], _, S, r, ?_⟩
  rw [h]
  exact fun F' ms' H' t S' v p => p
theorem subF_mem {p : Pg} {c c' : Nat} {b : Bool} (h : p.subF c c' = some b) : (c, c', b) ∈ p.sub := look3_mem h
def plainAll : List Stmt → List (List Str) → List Nat → Prop
  | [], _, _ => True
  | s :: ss, ps :: r, n :: ns => (plainD s ps n ∧ n ≤ ps.length) ∧ plainAll ss r ns
  | _, _, _ => False
theorem plainAll_at : ∀ {ss : List Stmt} {ps : List (List Str)} {ns : List Nat}, plainAll ss ps ns → ∀ (f : Nat) (s : Stmt) (n : Nat), ss[f]? = some s → ns[f]? = some n → plainD s (ps.getD f []) n ∧ n ≤ (ps.getD f []).length
  | [], _, _, _, f, s, n, e, _ => by simp at e
  | _ :: _, [], _, h, _, _, _, _, _ => by cases h
  | _ :: _, _ :: _, [], h, _, _, _, _, _ => by cases h
  | s :: ss, p :: ps, n :: ns, h, f, s', n', e, e2 => by
    cases f with
    | zero => cases e; cases e2; exact h.1
    | succ f => exact plainAll_at h.2 f s' n' e e2
theorem plain_of {p : Pg} {ps : List (List Str)} (h : plainAll p.st ps p.nd) (e : ∀ f, f < p.st.length → p.ps f = ps.getD f []) (f : Nat) (s : Stmt) (n : Nat) (q : p.st[f]? = some s) (q2 : p.nd[f]? = some n) : plainD s (p.ps f) n ∧ n ≤ (p.ps f).length := by
  rw [e f (List.getElem?_eq_some_iff.mp q).1]
  exact plainAll_at h f s n q q2
def Pg.kitL (p : Pg) : List (Str × Str × Bool) := p.sub.map fun q => (p.cn.getD q.1 "", p.cn.getD q.2.1 "", q.2.2)
def Pg.xt (p : Pg) : Xt := ⟨p.cn, p.kitL, p.lam.map fun f => p.at_.getD f ("", none), p.tb⟩
def subB (p : Pg) : Bool := p.sub.all fun q => Nat.blt q.1 p.cn.length
/-- at most one def hands lambdas -/
def lamB (p : Pg) : Bool := match p.lam with
  | [] => true
  | [f] => Nat.blt f p.at_.length
  | _ => false
theorem fas_mem {p : Pg} {g : He.Fa} (L : List He.Fa) (h : L ∈ [(p.at_.filterMap atNm).map He.Fa.glo, p.cn.map He.Fa.glo, frees.map He.Fa.free, p.cn.map He.Fa.exc, p.con.map conFa, p.sub.map (fun q => He.Fa.exm (p.cn.getD q.1 "") (p.cn.getD q.2.1 "") q.2.2), p.tb.map (fun q => He.Fa.glo q.1),
  p.kn.map He.Fa.glo, p.kn.map He.Fa.cls, (p.kn.zip p.cf).flatMap (fun q => q.2.map fun f => He.Fa.noat q.1 f), p.mt.map (fun q => He.Fa.meth (p.kn.getD q.1 "") (p.mn.getD q.2.1 "")), p.ini.map (fun q => He.Fa.mkr (p.kn.getD q.1 ""))]) (hg : g ∈ L) : g ∈ p.fas := List.mem_flatten.mpr ⟨L, h, hg⟩
theorem Pg.end_ {p : Pg} {l : PySem.W.OpenLaw} {q : Program} {loose : List Str} {XP : (Str → Option Value) → Heap → Prop} {d : DefRec} {nh n k f : Nat} {x : Str} (hn : l.most = some n) (hn2 : n ≤ sizeLine) (hdf : d.params.defaults = []) (hr : Room (4 * k + 1) callerA)
    (hname : d.name = ("law" : Str)) (hf : p.at_[f]? = some (("law" : Str), none)) (hf0 : p.nd[f]? = some 0) (hx : p.ps f = [x]) (hpl : ∀ (f : Nat) (s : Stmt) (n : Nat), p.st[f]? = some s → p.nd[f]? = some n → plainD s (p.ps f) n ∧ n ≤ (p.ps f).length) (hlen : p.at_.length = p.st.length) (hlnd : p.nd.length = p.st.length)
    (hchk : ∀ (K : PySem.W.Frag) (fd : Nat → FuncData), chkAll (p.tab K fd) p.lam 0 p.dfs p.N p.st = true) (hcls : clsB p = true) (hcon : conB p.con = true) (hsub : subB p = true) (hlam : lamB p = true)
    (hlaw : ∀ ns : List Int, ns.length ≤ n → (∀ z ∈ ns, Builtin.Int.intBits z ≤ 1048576) → ∃ l', Vx.call p.pt k f [.d (.lst (ns.map D.int))] [] = .ok (.d (.bl true)) l') :
    PySem.W.WalkO q loose XP (hookX nh p.fas p.fns p.xt).says l.row.toRowW d [] (fun f vs => PySem.call f vs) := by
  refine LamX.walk_ofTsE (CX := fun w => L2.CX l.prog w) (x := x) (k := 4 * k + 1) hn hn2 hdf hr ?_ (fun w H s e s' z => cx_no H s e s' z)
  intro w mg fa h Y G hmg0
  obtain ⟨K, KX, c, nl, cok, chd, cout, cem, ctb⟩ := Y
  rw [hname] at hmg0
  -- the tables
  let cs : List (Addr × Addr) := p.xt.tf.map (He.cT K)
  let nm : List Str := p.lam.map fun f => atQ (p.at_.getD f ("", none)) ++ ".<locals>." ++ "<lambda>"
  letI tb : Tbs := ⟨(cs.map (·.2)).zip nm, l.prog, w, fun c => He.ga K (p.kn.getD c ""), fun c => p.cf.getD c []⟩
  have ex : ∀ f : Nat, ∃ fd : FuncData, ∀ (q : Str × Option Str) (s : Stmt) (n : Nat), p.at_[f]? = some q → p.st[f]? = some s → p.nd[f]? = some n → FD K q s n fd := fun f => by
    cases h1 : p.at_[f]? with
    | none => exact ⟨noFd, fun x s n e => nomatch e⟩
    | some x =>
      cases h2 : p.st[f]? with
      | none => exact ⟨noFd, fun x s n _ e => nomatch e⟩
      | some s =>
        cases h3 : p.nd[f]? with
        | none => exact ⟨noFd, fun x s n _ _ e => nomatch e⟩
        | some n =>
          have h4 : (p.st.zip p.nd)[f]? = some (s, n) := by rw [List.getElem?_zip_eq_some]; exact ⟨h2, h3⟩
          obtain ⟨fd, F⟩ := has_def (d := mkD x s n) c (List.mem_map.mpr ⟨(x, (s, n)), zip_at h1 h4, rfl⟩)
          refine ⟨fd, fun x' s' n' e1 e2 e3 => ?_⟩
          cases e1; cases e2; cases e3
          have e : (mkD x s n).dvs K = List.replicate n V.non := by
            show (List.replicate n He.Dv.non).map (He.Dv.v K) = _
            rw [List.map_replicate]
            rfl
          rw [e] at F
          exact F
  let fd : Nat → FuncData := fun f => Classical.choose (ex f)
  have hfd : ∀ (f : Nat) (q : Str × Option Str) (s : Stmt) (n : Nat), p.at_[f]? = some q → p.st[f]? = some s → p.nd[f]? = some n → FD K q s n (fd f) := fun f => Classical.choose_spec (ex f)
  have fa_ : ∀ {g : He.Fa}, g ∈ p.fas → g.ok K = true := fun h => has_fact c h
  obtain ⟨ok1, ok23⟩ := and2' cok
  obtain ⟨ok2, ok3⟩ := and2' ok23
  have S : Stat p w K mg fd := {
    fun_ := hfd
    plain := hpl
    len := hlen
    lnd := hlnd
    chk := hchk K fd
    cls := hcls
    glo := fun f x e => He.glo_ok KX G (fa_ (fas_mem _ (by repeat (first | exact List.mem_cons_self | apply List.mem_cons_of_mem)) (List.mem_map.mpr ⟨x, List.mem_filterMap.mpr ⟨_, List.mem_of_getElem? e, rfl⟩, rfl⟩)))
    con := fun x d e => by
      obtain ⟨m, hd⟩ := conB_at hcon e
      have hm : conFa (x, d) ∈ p.fas := fas_mem (p.con.map conFa) (by repeat (first | exact List.mem_cons_self | apply List.mem_cons_of_mem)) (List.mem_map.mpr ⟨_, m, rfl⟩)
      rcases hd with ⟨i, rfl⟩ | ⟨z, rfl⟩
      · obtain ⟨t, e⟩ := He.int_ok KX G (fa_ hm)
        exact ⟨_, .int i, e, ⟨t, rfl⟩, fun _ F => rfl⟩
      · obtain ⟨t, e⟩ := He.str_ok KX G (fa_ hm)
        exact ⟨_, .str (sx z), e, ⟨t, rfl⟩, fun _ F => rfl⟩
    fr := fun x hx => He.free_ok KX G (fa_ (fas_mem (frees.map He.Fa.free) (by repeat (first | exact List.mem_cons_self | apply List.mem_cons_of_mem)) (List.mem_map.mpr ⟨x, hx, rfl⟩)))
    exc := fun c x e => by
      have m := List.mem_of_getElem? e
      have h1 := He.glo_ok KX G (fa_ (g := .glo x) (fas_mem (p.cn.map He.Fa.glo) (by repeat (first | exact List.mem_cons_self | apply List.mem_cons_of_mem)) (List.mem_map.mpr ⟨x, m, rfl⟩)))
      obtain ⟨h2, h3, h4, h5⟩ := He.exc_ok (fa_ (g := .exc x) (fas_mem (p.cn.map He.Fa.exc) (by repeat (first | exact List.mem_cons_self | apply List.mem_cons_of_mem)) (List.mem_map.mpr ⟨x, m, rfl⟩)))
      exact ⟨h1, h2, h3, h4, h5⟩
    xc := fun c x e => excB_ok (List.all_eq_true.mp ok1 x (List.mem_of_getElem? e))
    kit := fun c c' b e => of_decide_eq_true (List.all_eq_true.mp ok2 _ (List.mem_map.mpr ⟨_, subF_mem e, rfl⟩))
    sbn := fun c c' b e => by
      have h1 := List.all_eq_true.mp hsub _ (subF_mem e)
      have h2 : c < p.cn.length := by simpa [Nat.blt_eq] using h1
      exact ⟨_, List.getElem?_eq_getElem h2⟩
    exm := fun c c' b e => He.exm_ok (fa_ (fas_mem (p.sub.map (fun q => He.Fa.exm (p.cn.getD q.1 "") (p.cn.getD q.2.1 "") q.2.2)) (by repeat (first | exact List.mem_cons_self | apply List.mem_cons_of_mem)) (List.mem_map.mpr ⟨_, subF_mem e, rfl⟩)))
    tabs := fun x kvs e => by
      have m : (x, kvs) ∈ p.tb := lookup_mem e
      have hg := He.glo_ok KX G (fa_ (g := .glo x) (fas_mem (p.tb.map (fun q => He.Fa.glo q.1)) (by repeat (first | exact List.mem_cons_self | apply List.mem_cons_of_mem)) (List.mem_map.mpr ⟨(x, kvs), m, rfl⟩)))
      obtain ⟨i, hi, e2⟩ := List.getElem_of_mem m
      have h3 := congrArg (fun l => l[i]?) ctb
      rw [List.getElem?_map, List.getElem?_map, show p.xt.tb[i]? = some (x, kvs) from by rw [← e2]; exact List.getElem?_eq_getElem hi] at h3
      exact ktab_of (q := (x, kvs)) hg (List.all_eq_true.mp ok3 _ m) (Option.some.inj h3)
    tcl := fun c => rfl
    tfn := fun c => rfl
    kglo := fun x hx => He.glo_ok KX G (fa_ (fas_mem (p.kn.map He.Fa.glo) (by repeat (first | exact List.mem_cons_self | apply List.mem_cons_of_mem)) (List.mem_map.mpr ⟨x, hx, rfl⟩)))
    kcls := fun x hx => He.cls_ok (fa_ (fas_mem (p.kn.map He.Fa.cls) (by repeat (first | exact List.mem_cons_self | apply List.mem_cons_of_mem)) (List.mem_map.mpr ⟨x, hx, rfl⟩)))
    noat := fun c f hf => by
      have hk : p.kn.length = p.cf.length := by
        unfold clsB at hcls
        obtain ⟨h12345, h6⟩ := and2' hcls
        obtain ⟨h1234, h5⟩ := and2' h12345
        obtain ⟨h123, h4⟩ := and2' h1234
        obtain ⟨h12, h3⟩ := and2' h123
        exact of_decide_eq_true (and2' h12).2
      have hc : c < p.cf.length := by
        by_cases hc : c < p.cf.length
        · exact hc
        · exfalso
          rw [List.getD_eq_getElem?_getD, List.getElem?_eq_none (by omega)] at hf
          cases hf
      have hc2 : c < p.kn.length := by omega
      have e1 : p.cf[c]? = some (p.cf.getD c []) := by rw [List.getD_eq_getElem?_getD, List.getElem?_eq_getElem hc]; rfl
      have e2 : p.kn[c]? = some (p.kn.getD c "") := by rw [List.getD_eq_getElem?_getD, List.getElem?_eq_getElem hc2]; rfl
      exact He.noat_ok (fa_ (g := .noat (p.kn.getD c "") f) (fas_mem ((p.kn.zip p.cf).flatMap (fun q => q.2.map fun f => He.Fa.noat q.1 f)) (by repeat (first | exact List.mem_cons_self | apply List.mem_cons_of_mem)) (List.mem_flatMap.mpr ⟨_, zip_at e2 e1, List.mem_map.mpr ⟨f, hf, rfl⟩⟩)))
    meth := fun q hq => He.meth_ok (fa_ (g := .meth (p.kn.getD q.1 "") (p.mn.getD q.2.1 "")) (fas_mem (p.mt.map (fun q => He.Fa.meth (p.kn.getD q.1 "") (p.mn.getD q.2.1 ""))) (by repeat (first | exact List.mem_cons_self | apply List.mem_cons_of_mem)) (List.mem_map.mpr ⟨q, hq, rfl⟩)))
    mkr := fun q hq => He.mkr_ok (fa_ (g := .mkr (p.kn.getD q.1 "")) (fas_mem (p.ini.map (fun q => He.Fa.mkr (p.kn.getD q.1 ""))) (by repeat (first | exact List.mem_cons_self | apply List.mem_cons_of_mem)) (List.mem_map.mpr ⟨q, hq, rfl⟩))) }
  have hfa : fa = He.ga K ("law" : Str) := by
    have e := hmg0.symm.trans (S.glo f _ hf)
    cases e
    rfl
  subst hfa
  have hcode : ∀ (f : Nat) (q : Str × Option Str), p.at_[f]? = some q → (fd f).code = .ref (He.codeOf K q) := fun f q h1 => by
    obtain ⟨s, n, df, N, hs, hn, e1, F, _⟩ := S.at_ h1
    obtain ⟨oc, od, dV, kV, doc, pm, an, cdv, ct, osl, e, lk, hcd, _, _⟩ := F.ex
    obtain ⟨c0, hc0⟩ := He.codeIn_ref hcd
    have e3 : (fd f).code = cdv := by rw [e]
    rw [e3, hc0]
    have e2 := He.codeOf_eq (p := q) lk (by rw [e3]; exact hc0)
    rw [e2]
  have hL : ∀ base : Heap, (∀ p ∈ cs, LamX.TabB base mg p.1 p.2) → LamT p mg base fd := by
    intro base TB f x hf hx
    unfold lamB at hlam
    have hm : f ∈ p.lam := by simpa using hf
    match hl : p.lam, hm with
    | [], hm => cases hm
    | [g], hm =>
      have hg : f = g := by simpa using hm
      subst hg
      have hgx : p.at_.getD f ("", none) = x := getD_of hx
      have hcs : cs = [He.cT K x] := by
        show (p.lam.map fun f => p.at_.getD f ("", none)).map (He.cT K) = _
        rw [hl]
        show [He.cT K (p.at_.getD f ("", none))] = _
        rw [hgx]
      have hT : (Tbs.T : List (Addr × Str)) = [((He.cT K x).2, atQ x ++ ".<locals>." ++ "<lambda>")] := by
        show (cs.map (·.2)).zip (p.lam.map fun f => atQ (p.at_.getD f ("", none)) ++ ".<locals>." ++ "<lambda>") = _
        rw [hcs, hl]
        show [((He.cT K x).2, atQ (p.at_.getD f ("", none)) ++ ".<locals>." ++ "<lambda>")] = _
        rw [hgx]
      refine ⟨(He.cT K x).1, (He.cT K x).2, TB _ (by rw [hcs]; exact List.mem_cons_self), hcode f x hx, by rw [hT]; exact List.mem_cons_self, fun q hq _ => ?_⟩
      rw [hT] at hq
      rcases List.mem_cons.mp hq with rfl | hq
      · rfl
      · cases hq
    | _ :: _ :: _, _ => rw [hl] at hlam; cases hlam
  have hfl : f < p.st.length := by
    rw [← hlen]
    exact (List.getElem?_eq_some_iff.mp hf).1
  have hst : p.st[f]? = some (p.st[f]'hfl) := List.getElem?_eq_getElem hfl
  have mem_cs : ∀ q ∈ cs, ∃ p0 ∈ p.xt.tf, He.cT K p0 = q := fun q hq => List.mem_map.mp hq
  refine ⟨K, KX, fd f, cs, spF (p.tab K fd) k f, fun q hq => ?_, fun q hq => ?_, fun q hq => ?_, fun s u => ?_, fun H a ns hl hbits hT hS => ?_, fun base h1 h2 TB => ?_⟩
  · obtain ⟨p0, h0, rfl⟩ := mem_cs q hq
    exact cem p0 h0
  · obtain ⟨p0, h0, rfl⟩ := mem_cs q hq
    exact cout p0 h0
  · obtain ⟨p0, h0, rfl⟩ := mem_cs q hq
    exact PySem.W.codeHd_of_K KX (chd p0 h0)
  · have b := FunD.bindsA (ps := [x]) (hfd f _ _ _ hf hst hf0) (fun kV doc pm an cdv ct us hu => by
      rw [← hx] at hu ⊢
      exact (hpl f _ _ hst hf0).1 _ _ _ _ kV doc pm an cdv ct us hu) s [u] rfl
    exact b
  · obtain ⟨l', e⟩ := hlaw ns hl hbits
    refine spF_law (T := p.tab K fd) (fun q hq => ?_) (by show (p.ps f).length = 1; rw [hx]; rfl) hS nl e
    have hq2 : q.1 ∈ cs.map (·.2) := (List.of_mem_zip (show (q.1, q.2) ∈ (cs.map (·.2)).zip nm from hq)).1
    obtain ⟨r, hr, e2⟩ := List.mem_map.mp hq2
    rw [← e2]
    exact LamX.TabS.nil (hT r hr)
  · have := S.ok (P := l.prog) (w := w) (base := base) (hL base TB) rfl rfl k f _ hf
    rw [hx] at this
    exact this
/-- a world whose answer to one row of the text is written out -/
def fixW (w : World) (b : Bool) : World := { w with params := { w.params with followText := fun s => match decide (s = "special-get-raises") with
  | true => b
  | false => w.params.followText s } }
theorem fixW_eq (w : World) : fixW w (w.params.followText "special-get-raises") = w := by
  obtain ⟨p, q⟩ := w
  have e : (fun s => match decide (s = "special-get-raises") with
      | true => q.followText "special-get-raises"
      | false => q.followText s) = q.followText := by
    funext s
    by_cases h : s = "special-get-raises"
    · rw [h]; rfl
    · rw [decide_eq_false h]
  show World.mk p { q with followText := _ } = _
  have e2 : ({ q with followText := fun s => match decide (s = "special-get-raises") with
      | true => q.followText "special-get-raises"
      | false => q.followText s } : Params) = q := by
    rw [e]
  exact congrArg (World.mk p) e2
theorem all_worlds {P : World → Prop} (h : ∀ (w : World) (b : Bool), P (fixW w b)) (w : World) : P w := by
  have := h w (w.params.followText "special-get-raises")
  rwa [fixW_eq] at this
end Vx

set_option maxHeartbeats 0
namespace Vx
open PySem PySem.Spec PyProof.Rows L2
abbrev theP : Program := PySem.Challenge.pw_signsleft_k60_rows_of_deeds
def top (i : Nat) : Stmt := theP.main.body.getD i (.Pass ⟨0, 0, 0, 0⟩)
def t_SIZES : List (Tx × D) := [([119, 114, 105, 116, 101], (.int 3)), ([114, 101, 110, 97, 109, 101], (.int 3)), ([112, 97, 114, 116], (.int 4)), ([106, 111, 105, 110], (.int 3)), ([97, 119, 97, 121], (.int 2)), ([98, 97, 99, 107], (.int 2)), ([115, 105, 103, 110], (.int 3)), ([102, 97, 109, 105, 108, 121], (.int 3)), ([115, 116, 114, 97, 105, 103, 104, 116], (.int 1)), ([114, 101, 110, 101, 119], (.int 2))]
abbrev f_small : Nat := 0
abbrev f_plain_segment : Nat := 1
abbrev f_come_to : Nat := 2
abbrev f_come_to_part : Nat := 3
abbrev f_name_of : Nat := 4
abbrev f_part_of : Nat := 5
abbrev f_checked : Nat := 6
abbrev f_target : Nat := 7
abbrev f_target_text : Nat := 8
abbrev f_check_deed : Nat := 9
abbrev f_onward_text : Nat := 10
abbrev f_escaped : Nat := 11
abbrev f_unescaped : Nat := 12
abbrev f_deed_row : Nat := 13
abbrev f_read_write : Nat := 14
abbrev f_read_part : Nat := 15
abbrev f_read_two : Nat := 16
abbrev f_read_one : Nat := 17
abbrev f_deed_of : Nat := 18
abbrev f_read_deed : Nat := 19
abbrev f_law_state : Nat := 20
abbrev f_law_digit : Nat := 21
abbrev f_law_plain_name : Nat := 22
abbrev f_law_gap : Nat := 23
abbrev f_law_otherwise : Nat := 24
abbrev f_law_any : Nat := 25
abbrev f_law_text : Nat := 26
abbrev f_law_escaped : Nat := 27
abbrev f_law_deed : Nat := 28
abbrev f_law_handed : Nat := 29
abbrev f_law_row : Nat := 30
abbrev f_law_asked : Nat := 31
abbrev f_law_spoilt : Nat := 32
abbrev f_law : Nat := 33
/-- 0: small(sign) -/
def d_small : Def := ⟨1, 1,
  (.cons (.ifs (.e (.op .isin (.v 0) (.g "PLAIN" (.str [97, 98, 99, 100, 101, 102, 103, 104, 105, 106, 107, 108, 109, 110, 111, 112, 113, 114, 115, 116, 117, 118, 119, 120, 121, 122, 48, 49, 50, 51, 52, 53, 54, 55, 56, 57])))) (.cons (.ret (.v 0)) .nil) .nil) (.cons (.ifs (.e (.op .isin (.v 0) (.g "GREAT" (.str [65, 66, 67, 68, 69, 70, 71, 72, 73, 74, 75, 76, 77, 78, 79, 80, 81, 82, 83, 84, 85, 86, 87, 88, 89, 90])))) (.cons (.ret (.idx (.g "PLAIN" (.str [97, 98, 99, 100, 101, 102, 103, 104, 105, 106, 107, 108, 109, 110, 111, 112, 113, 114, 115, 116, 117, 118, 119, 120, 121, 122, 48, 49, 50, 51, 52, 53, 54, 55, 56, 57])) (.sm .index (.g "GREAT" (.str [65, 66, 67, 68, 69, 70, 71, 72, 73, 74, 75, 76, 77, 78, 79, 80, 81, 82, 83, 84, 85, 86, 87, 88, 89, 90])) (.cons (.v 0) .nil)))) .nil) .nil) (.cons (.ifs (.e (.op .isin (.v 0) (.g "BETWEEN" (.str [32, 95, 45])))) (.cons (.ret (.c (.str [95]))) .nil) .nil) (.cons (.ret (.c .non)) .nil))))⟩
def e_plain_segment_0 : Ex := (.call true f_small (.cons (.v 3) .nil) 0)
def c_plain_segment_0 : Tes := (.cons (.e (.op .ne (.v 4) (.c (.str [])))) .nil)
def e_plain_segment_1 : Ex := (.v 4)
/-- 1: plain_segment(segment) -/
def d_plain_segment : Def := ⟨1, 5,
  (.cons (.asg (.n 1) (.lc false (.n 3) .str (.cons (.v 0) .nil) .nil e_plain_segment_0 [("sign", 3)])) (.cons (.ifs (.e (.op .isin (.c .non) (.v 1))) (.cons (.ret (.c .non)) .nil) .nil) (.cons (.asg (.n 2) (.lc false (.n 4) .lst (.cons (.sm .split (.sm .join (.c (.str [])) (.cons (.v 1) .nil)) (.cons (.c (.str [95])) .nil)) .nil) c_plain_segment_0 e_plain_segment_1 [("word", 4)])) (.cons (.ifs (.e (.op .eq (.v 2) (.lst false .nil))) (.cons (.ret (.c .non)) .nil) .nil) (.cons (.ret (.sm .join (.c (.str [95])) (.cons (.v 2) .nil))) .nil)))))⟩
def e_come_to_0 : Ex := (.call true f_plain_segment (.cons (.v 3) .nil) 0)
/-- 2: come_to(thing) -/
def d_come_to : Def := ⟨1, 4,
  (.cons (.ifs (.not (.e (.bi (.isi .str) (.v 0)))) (.cons (.ret (.c .non)) .nil) .nil) (.cons (.asg (.n 1) (.lc false (.n 3) .lst (.cons (.sm .split (.v 0) (.cons (.c (.str [47])) .nil)) .nil) .nil e_come_to_0 [("segment", 3)])) (.cons (.ifs (.or (.e (.op .isin (.c .non) (.v 1))) (.e (.op .gt (.bi .len (.v 1)) (.g "MOST_SEGMENTS" (.int 4))))) (.cons (.ret (.c .non)) .nil) .nil) (.cons (.asg (.n 2) (.sm .join (.c (.str [47])) (.cons (.v 1) .nil))) (.cons (.ifs (.e (.op .gt (.bi .len (.v 2)) (.g "MOST_SIGNS_names" (.int 24)))) (.cons (.ret (.c .non)) .nil) .nil) (.cons (.ret (.v 2)) .nil))))))⟩
/-- 3: come_to_part(thing) -/
def d_come_to_part : Def := ⟨1, 2,
  (.cons (.ifs (.not (.e (.bi (.isi .str) (.v 0)))) (.cons (.ret (.c .non)) .nil) .nil) (.cons (.asg (.n 1) (.call true f_plain_segment (.cons (.v 0) .nil) 0)) (.cons (.ifs (.or (.e (.op .isv (.v 1) (.c .non))) (.e (.op .gt (.bi .len (.v 1)) (.g "MOST_PART" (.int 12))))) (.cons (.ret (.c .non)) .nil) .nil) (.cons (.ret (.v 1)) .nil))))⟩
/-- 4: name_of(thing) -/
def d_name_of : Def := ⟨1, 2,
  (.cons (.asg (.n 1) (.call true f_come_to (.cons (.v 0) .nil) 0)) (.cons (.ifs (.e (.op .isv (.v 1) (.c .non))) (.cons (.raise 1 "no name") .nil) .nil) (.cons (.ret (.v 1)) .nil)))⟩
/-- 5: part_of(thing) -/
def d_part_of : Def := ⟨1, 2,
  (.cons (.asg (.n 1) (.call true f_come_to_part (.cons (.v 0) .nil) 0)) (.cons (.ifs (.e (.op .isv (.v 1) (.c .non))) (.cons (.raise 1 "no part's name") .nil) .nil) (.cons (.ret (.v 1)) .nil)))⟩
/-- 6: checked(text) -/
def d_checked : Def := ⟨1, 1,
  (.cons (.ifs (.or (.not (.e (.bi (.isi .str) (.v 0)))) (.e (.op .gt (.bi .len (.v 0)) (.g "MOST_SIGNS_texts" (.int 400))))) (.cons (.raise 2 "no text of a page") .nil) .nil) (.cons (.ret (.v 0)) .nil))⟩
/-- 7: target(written) -/
def d_target : Def := ⟨1, 4,
  (.cons (.asg (.n 1) (.sm .split (.v 0) (.cons (.c (.str [35])) .nil))) (.cons (.asg (.n 2) (.call true f_come_to (.cons (.idx (.v 1) (.c (.int 0))) .nil) 0)) (.cons (.ifs (.or (.e (.op .isv (.v 2) (.c .non))) (.e (.op .gt (.bi .len (.v 1)) (.c (.int 2))))) (.cons (.ret (.c .non)) .nil) .nil) (.cons (.ifs (.e (.op .eq (.bi .len (.v 1)) (.c (.int 1)))) (.cons (.ret (.tup (.cons (.v 2) (.cons (.c .non) .nil)))) .nil) .nil) (.cons (.asg (.n 3) (.call true f_come_to_part (.cons (.idx (.v 1) (.c (.int 1))) .nil) 0)) (.cons (.ifs (.e (.op .isv (.v 3) (.c .non))) (.cons (.ret (.c .non)) .nil) .nil) (.cons (.ret (.tup (.cons (.v 2) (.cons (.v 3) .nil)))) .nil)))))))⟩
/-- 8: target_text(found) -/
def d_target_text : Def := ⟨1, 1,
  (.cons (.ifs (.e (.op .isv (.idx (.v 0) (.c (.int 1))) (.c .non))) (.cons (.ret (.idx (.v 0) (.c (.int 0)))) .nil) .nil) (.cons (.ret (.op .add (.op .add (.idx (.v 0) (.c (.int 0))) (.c (.str [35]))) (.idx (.v 0) (.c (.int 1))))) .nil))⟩
/-- 9: check_deed(deed) -/
def d_check_deed : Def := ⟨1, 1,
  (.cons (.ifs (.or (.not (.e (.bi (.isi .tup) (.v 0)))) (.or (.e (.op .eq (.v 0) (.tup .nil))) (.not (.e (.bi (.isi .str) (.idx (.v 0) (.c (.int 0)))))))) (.cons (.raise 3 "no deed") .nil) .nil) (.cons (.ifs (.e (.op .ne (.tget "SIZES" t_SIZES (.idx (.v 0) (.c (.int 0)))) (.bi .len (.v 0)))) (.cons (.raise 3 "no deed") .nil) .nil) .nil))⟩
/-- 10: onward_text(to) -/
def d_onward_text : Def := ⟨1, 2,
  (.cons (.asg (.n 1) (.c .non)) (.cons (.ifs (.e (.bi (.isi .str) (.v 0))) (.cons (.asg (.n 1) (.call true f_target (.cons (.v 0) .nil) 0)) .nil) .nil) (.cons (.ifs (.e (.op .isv (.v 1) (.c .non))) (.cons (.raise 1 "no name") .nil) .nil) (.cons (.ret (.call true f_target_text (.cons (.v 1) .nil) 0)) .nil))))⟩
/-- 11: escaped(text) -/
def d_escaped : Def := ⟨1, 1,
  (.cons (.ret (.repl [10] [92, 110] (.repl [92] [92, 92] (.v 0)))) .nil)⟩
def b_unescaped_0 : Sts := (.cons (.asg (.n 3) (.idx (.v 0) (.v 2))) (.cons (.ifs (.e (.op .eq (.v 3) (.c (.str [10])))) (.cons (.ret (.c .non)) .nil) .nil) (.cons (.ifs (.e (.op .eq (.v 3) (.c (.str [92])))) (.cons (.asg (.n 2) (.op .add (.v 2) (.c (.int 1)))) (.cons (.ifs (.e (.op .notin (.sl (.v 0) (.so (.v 2)) (.so (.op .add (.v 2) (.c (.int 1))))) (.tup (.cons (.c (.str [110])) (.cons (.c (.str [92])) .nil))))) (.cons (.ret (.c .non)) .nil) .nil) (.cons (.asg (.n 3) (.ite (.e (.op .eq (.idx (.v 0) (.v 2)) (.c (.str [110])))) (.c (.str [10])) (.c (.str [92])))) .nil))) .nil) (.cons (.asg (.n 1) (.op .add (.v 1) (.v 3))) (.cons (.asg (.n 2) (.op .add (.v 2) (.c (.int 1)))) .nil)))))
/-- 12: unescaped(row) -/
def d_unescaped : Def := ⟨1, 4,
  (.cons (.asg (.n 1) (.c (.str []))) (.cons (.asg (.n 2) (.c (.int 0))) (.cons (.whl 100000 (.e (.op .lt (.v 2) (.bi .len (.v 0)))) b_unescaped_0) (.cons (.ret (.v 1)) .nil))))⟩
/-- 13: deed_row(deed) -/
def d_deed_row : Def := ⟨1, 2,
  (.cons (.ex (.call true f_check_deed (.cons (.v 0) .nil) 0)) (.cons (.asg (.n 1) (.idx (.v 0) (.c (.int 0)))) (.cons (.ifs (.e (.op .eq (.v 1) (.c (.str [119, 114, 105, 116, 101])))) (.cons (.ret (.op .add (.op .add (.op .add (.c (.str [119, 114, 105, 116, 101, 32])) (.call true f_name_of (.cons (.idx (.v 0) (.c (.int 1))) .nil) 0)) (.c (.str [58, 32]))) (.call true f_escaped (.cons (.call true f_checked (.cons (.idx (.v 0) (.c (.int 2))) .nil) 0) .nil) 0))) .nil) .nil) (.cons (.ifs (.e (.op .eq (.v 1) (.c (.str [112, 97, 114, 116])))) (.cons (.ret (.op .add (.op .add (.op .add (.op .add (.op .add (.c (.str [112, 97, 114, 116, 32])) (.call true f_name_of (.cons (.idx (.v 0) (.c (.int 1))) .nil) 0)) (.c (.str [32, 35, 32]))) (.call true f_part_of (.cons (.idx (.v 0) (.c (.int 2))) .nil) 0)) (.c (.str [32, 62, 32]))) (.call true f_name_of (.cons (.idx (.v 0) (.c (.int 3))) .nil) 0))) .nil) .nil) (.cons (.ifs (.e (.op .eq (.v 1) (.c (.str [115, 105, 103, 110])))) (.cons (.ret (.op .add (.op .add (.op .add (.c (.str [115, 105, 103, 110, 32])) (.call true f_name_of (.cons (.idx (.v 0) (.c (.int 1))) .nil) 0)) (.c (.str [32, 62, 32]))) (.call true f_onward_text (.cons (.idx (.v 0) (.c (.int 2))) .nil) 0))) .nil) .nil) (.cons (.ifs (.e (.op .eq (.bi .len (.v 0)) (.c (.int 1)))) (.cons (.ret (.v 1)) .nil) .nil) (.cons (.ifs (.e (.op .eq (.bi .len (.v 0)) (.c (.int 2)))) (.cons (.ret (.op .add (.op .add (.v 1) (.c (.str [32]))) (.call true f_name_of (.cons (.idx (.v 0) (.c (.int 1))) .nil) 0))) .nil) .nil) (.cons (.ret (.op .add (.op .add (.op .add (.op .add (.v 1) (.c (.str [32]))) (.call true f_name_of (.cons (.idx (.v 0) (.c (.int 1))) .nil) 0)) (.c (.str [32, 62, 32]))) (.call true f_name_of (.cons (.idx (.v 0) (.c (.int 2))) .nil) 0))) .nil))))))))⟩
/-- 14: read_write(rest) -/
def d_read_write : Def := ⟨1, 4,
  (.cons (.asg (.n 1) (.sm .partition (.v 0) (.cons (.c (.str [58, 32])) .nil))) (.cons (.asg (.n 2) (.call true f_come_to (.cons (.idx (.v 1) (.c (.int 0))) .nil) 0)) (.cons (.asg (.n 3) (.call true f_unescaped (.cons (.idx (.v 1) (.c (.int 2))) .nil) 0)) (.cons (.ifs (.or (.e (.op .eq (.idx (.v 1) (.c (.int 1))) (.c (.str [])))) (.or (.e (.op .isv (.v 2) (.c .non))) (.or (.e (.op .isv (.v 3) (.c .non))) (.e (.op .gt (.bi .len (.v 3)) (.c (.int 400))))))) (.cons (.ret (.c .non)) .nil) .nil) (.cons (.ret (.tup (.cons (.c (.str [119, 114, 105, 116, 101])) (.cons (.v 2) (.cons (.v 3) .nil))))) .nil)))))⟩
/-- 15: read_part(rest) -/
def d_read_part : Def := ⟨1, 4,
  (.cons (.asg (.n 1) (.sm .split (.v 0) (.cons (.c (.str [32, 62, 32])) .nil))) (.cons (.ifs (.e (.op .ne (.bi .len (.v 1)) (.c (.int 2)))) (.cons (.ret (.c .non)) .nil) .nil) (.cons (.asg (.n 2) (.sm .split (.idx (.v 1) (.c (.int 0))) (.cons (.c (.str [32, 35, 32])) .nil))) (.cons (.ifs (.e (.op .ne (.bi .len (.v 2)) (.c (.int 2)))) (.cons (.ret (.c .non)) .nil) .nil) (.cons (.asg (.n 3) (.tup (.cons (.c (.str [112, 97, 114, 116])) (.cons (.call true f_come_to (.cons (.idx (.v 2) (.c (.int 0))) .nil) 0) (.cons (.call true f_come_to_part (.cons (.idx (.v 2) (.c (.int 1))) .nil) 0) (.cons (.call true f_come_to (.cons (.idx (.v 1) (.c (.int 1))) .nil) 0) .nil)))))) (.cons (.ifs (.e (.op .isin (.c .non) (.v 3))) (.cons (.ret (.c .non)) .nil) .nil) (.cons (.ret (.v 3)) .nil)))))))⟩
/-- 16: read_two(word, rest) -/
def d_read_two : Def := ⟨2, 6,
  (.cons (.asg (.n 2) (.sm .split (.v 1) (.cons (.c (.str [32, 62, 32])) .nil))) (.cons (.ifs (.e (.op .ne (.bi .len (.v 2)) (.c (.int 2)))) (.cons (.ret (.c .non)) .nil) .nil) (.cons (.asg (.n 3) (.call true f_come_to (.cons (.idx (.v 2) (.c (.int 0))) .nil) 0)) (.cons (.asg (.n 4) (.call true f_come_to (.cons (.idx (.v 2) (.c (.int 1))) .nil) 0)) (.cons (.ifs (.e (.op .eq (.v 0) (.c (.str [115, 105, 103, 110])))) (.cons (.asg (.n 5) (.call true f_target (.cons (.idx (.v 2) (.c (.int 1))) .nil) 0)) (.cons (.ifs (.e (.op .isnot (.v 5) (.c .non))) (.cons (.asg (.n 4) (.call true f_onward_text (.cons (.idx (.v 2) (.c (.int 1))) .nil) 0)) .nil) .nil) .nil)) .nil) (.cons (.ifs (.or (.e (.op .isv (.v 3) (.c .non))) (.e (.op .isv (.v 4) (.c .non)))) (.cons (.ret (.c .non)) .nil) .nil) (.cons (.ret (.tup (.cons (.v 0) (.cons (.v 3) (.cons (.v 4) .nil))))) .nil)))))))⟩
/-- 17: read_one(word, rest) -/
def d_read_one : Def := ⟨2, 3,
  (.cons (.asg (.n 2) (.call true f_come_to (.cons (.v 1) .nil) 0)) (.cons (.ifs (.e (.op .isv (.v 2) (.c .non))) (.cons (.ret (.c .non)) .nil) .nil) (.cons (.ret (.tup (.cons (.v 0) (.cons (.v 2) .nil)))) .nil)))⟩
/-- 18: deed_of(row) -/
def d_deed_of : Def := ⟨1, 4,
  (.cons (.ifs (.not (.e (.bi (.isi .str) (.v 0)))) (.cons (.ret (.c .non)) .nil) .nil) (.cons (.ifs (.e (.op .eq (.v 0) (.c (.str [115, 116, 114, 97, 105, 103, 104, 116])))) (.cons (.ret (.tup (.cons (.v 0) .nil))) .nil) .nil) (.cons (.asg (.t [1, 2, 3]) (.sm .partition (.v 0) (.cons (.c (.str [32])) .nil))) (.cons (.ifs (.or (.e (.op .eq (.v 2) (.c (.str [])))) (.e (.op .eq (.tget2 "SIZES" t_SIZES (.v 1) (.c (.int 1))) (.c (.int 1))))) (.cons (.ret (.c .non)) .nil) .nil) (.cons (.ifs (.e (.op .eq (.v 1) (.c (.str [119, 114, 105, 116, 101])))) (.cons (.ret (.call true f_read_write (.cons (.v 3) .nil) 0)) .nil) .nil) (.cons (.ifs (.e (.op .eq (.v 1) (.c (.str [112, 97, 114, 116])))) (.cons (.ret (.call true f_read_part (.cons (.v 3) .nil) 0)) .nil) .nil) (.cons (.ifs (.e (.op .eq (.tix "SIZES" t_SIZES (.v 1)) (.c (.int 2)))) (.cons (.ret (.call true f_read_one (.cons (.v 1) (.cons (.v 3) .nil)) 0)) .nil) .nil) (.cons (.ret (.call true f_read_two (.cons (.v 1) (.cons (.v 3) .nil)) 0)) .nil))))))))⟩
/-- 19: read_deed(row) -/
def d_read_deed : Def := ⟨1, 2,
  (.cons (.asg (.n 1) (.call true f_deed_of (.cons (.v 0) .nil) 0)) (.cons (.ifs (.e (.op .isv (.v 1) (.c .non))) (.cons (.raise 4 "no row of a deed") .nil) .nil) (.cons (.ret (.v 1)) .nil)))⟩
/-- 20: _law_state(_law_cell) -/
def d_law_state : Def := ⟨1, 1,
  (.cons (.ret (.lst true (.cons (.op .fdiv (.bi .abs (.v 0)) (.c (.int 2))) (.cons (.op .mod (.bi .abs (.v 0)) (.c (.int 2))) (.cons (.op .add (.op .mod (.bi .abs (.v 0)) (.c (.int 2147483629))) (.c (.int 7))) .nil))))) .nil)⟩
/-- 21: _law_digit(_law_s, _law_base) -/
def d_law_digit : Def := ⟨2, 3,
  (.cons (.ifs (.and (.e (.op .eq (.idx (.v 0) (.c (.int 1))) (.c (.int 0)))) (.e (.op .gt (.idx (.v 0) (.c (.int 0))) (.c (.int 0))))) (.cons (.asg (.n 2) (.op .mod (.idx (.v 0) (.c (.int 0))) (.v 1))) (.cons (.setI (.v 0) (.c (.int 0)) (.op .fdiv (.idx (.v 0) (.c (.int 0))) (.v 1))) (.cons (.ret (.v 2)) .nil))) .nil) (.cons (.setI (.v 0) (.c (.int 2)) (.op .add (.op .mod (.op .add (.op .mul (.idx (.v 0) (.c (.int 2))) (.op .add (.op .fdiv (.idx (.v 0) (.c (.int 2))) (.c (.int 1009))) (.c (.int 69621)))) (.op .mod (.idx (.v 0) (.c (.int 0))) (.c (.int 2147483587)))) (.c (.int 2147483629))) (.c (.int 7)))) (.cons (.ret (.op .mod (.op .fdiv (.idx (.v 0) (.c (.int 2))) (.c (.int 97))) (.v 1))) .nil)))⟩
def e_law_plain_name_0 : Ex := (.idx (.v 1) (.call false f_law_digit (.cons (.v 0) (.cons (.c (.int 36)) .nil)) 0))
def b_law_plain_name_0 : Sts := (.cons (.asg (.n 4) (.lst true (.cons (.sm .join (.c (.str [])) (.cons (.lc false (.n 5) .rng1 (.cons (.op .add (.c (.int 1)) (.call false f_law_digit (.cons (.v 0) (.cons (.c (.int 3)) .nil)) 0)) .nil) .nil e_law_plain_name_0 [("_law_j", 5)]) .nil)) .nil))) (.cons (.ifs (.e (.op .eq (.call false f_law_digit (.cons (.v 0) (.cons (.c (.int 4)) .nil)) 0) (.c (.int 0)))) (.cons (.ex (.sm .append (.v 4) (.cons (.idx (.v 1) (.call false f_law_digit (.cons (.v 0) (.cons (.c (.int 36)) .nil)) 0)) .nil))) .nil) .nil) (.cons (.ex (.sm .append (.v 2) (.cons (.sm .join (.c (.str [95])) (.cons (.frz (.v 4)) .nil)) .nil))) .nil)))
/-- 22: _law_plain_name(_law_s) -/
def d_law_plain_name : Def := ⟨1, 6,
  (.cons (.asg (.n 1) (.c (.str [97, 98, 99, 100, 101, 102, 103, 104, 105, 106, 107, 108, 109, 110, 111, 112, 113, 114, 115, 116, 117, 118, 119, 120, 121, 122, 48, 49, 50, 51, 52, 53, 54, 55, 56, 57]))) (.cons (.asg (.n 2) (.lst true .nil)) (.cons (.for (.n 3) .rng1 (.cons (.idx (.lst false (.cons (.c (.int 1)) (.cons (.c (.int 1)) (.cons (.c (.int 2)) (.cons (.c (.int 3)) (.cons (.c (.int 4)) .nil)))))) (.call false f_law_digit (.cons (.v 0) (.cons (.c (.int 5)) .nil)) 0)) .nil) b_law_plain_name_0) (.cons (.ret (.sm .join (.c (.str [47])) (.cons (.frz (.v 2)) .nil))) .nil))))⟩
def e_law_gap_0 : Ex := (.idx (.c (.str [32, 95, 45])) (.call false f_law_digit (.cons (.v 0) (.cons (.c (.int 3)) .nil)) 0))
/-- 23: _law_gap(_law_s) -/
def d_law_gap : Def := ⟨1, 2,
  (.cons (.ret (.sm .join (.c (.str [])) (.cons (.lc false (.n 1) .rng1 (.cons (.op .add (.c (.int 1)) (.call false f_law_digit (.cons (.v 0) (.cons (.c (.int 2)) .nil)) 0)) .nil) .nil e_law_gap_0 [("_law_k", 1)]) .nil))) .nil)⟩
def e_law_otherwise_0 : Ex := (.ite (.e (.op .eq (.v 3) (.c (.str [95])))) (.call false f_law_gap (.cons (.v 1) .nil) 0) (.idx (.lst false (.cons (.v 3) (.cons (.sm .upper (.v 3) .nil) .nil))) (.call false f_law_digit (.cons (.v 1) (.cons (.c (.int 2)) .nil)) 0)))
/-- 24: _law_otherwise(_law_name, _law_s) -/
def d_law_otherwise : Def := ⟨2, 4,
  (.cons (.asg (.n 2) (.sm .join (.c (.str [])) (.cons (.lc false (.n 3) .str (.cons (.v 0) .nil) .nil e_law_otherwise_0 [("_law_sign", 3)]) .nil))) (.cons (.ret (.op .add (.op .add (.idx (.lst false (.cons (.c (.str [])) (.cons (.c (.str [32])) (.cons (.c (.str [45])) .nil)))) (.call false f_law_digit (.cons (.v 1) (.cons (.c (.int 3)) .nil)) 0)) (.v 2)) (.idx (.lst false (.cons (.c (.str [])) (.cons (.c (.str [95])) (.cons (.c (.str [32])) .nil)))) (.call false f_law_digit (.cons (.v 1) (.cons (.c (.int 3)) .nil)) 0)))) .nil))⟩
/-- 25: _law_any(_law_s) -/
def d_law_any : Def := ⟨1, 2,
  (.cons (.asg (.n 1) (.c (.str [32, 33, 34, 35, 36, 38, 39, 40, 41, 42, 43, 44, 45, 46, 47, 48, 49, 50, 51, 52, 53, 54, 55, 56, 57, 58, 59, 60, 61, 62, 63, 64, 65, 66, 67, 68, 69, 70, 71, 72, 73, 74, 75, 76, 77, 78, 79, 80, 81, 82, 83, 84, 85, 86, 87, 88, 89, 90, 91, 92, 93, 94, 95, 96, 97, 98, 99, 100, 101, 102, 103, 104, 105, 106, 107, 108, 109, 110, 111, 112, 113, 114, 115, 116, 117, 118, 119, 120, 121, 122, 123, 124, 125, 126]))) (.cons (.ret (.idx (.v 1) (.call false f_law_digit (.cons (.v 0) (.cons (.c (.int 94)) .nil)) 0))) .nil))⟩
def b_law_text_0 : Sts := (.cons (.asg (.n 2) (.op .add (.v 2) (.idx (.lst false (.cons (.idx (.v 1) (.call false f_law_digit (.cons (.v 0) (.cons (.c (.int 9)) .nil)) 0)) (.cons (.call false f_law_any (.cons (.v 0) .nil) 0) .nil))) (.call false f_law_digit (.cons (.v 0) (.cons (.c (.int 2)) .nil)) 0)))) .nil)
/-- 26: _law_text(_law_s) -/
def d_law_text : Def := ⟨1, 4,
  (.cons (.asg (.n 1) (.lst false (.cons (.c (.str [10])) (.cons (.c (.str [92])) (.cons (.c (.str [58, 32])) (.cons (.c (.str [32, 62, 32])) (.cons (.c (.str [91, 91, 97, 93, 93])) (.cons (.c (.str [110])) (.cons (.c (.str [92, 110])) (.cons (.c (.str [32, 35, 32])) (.cons (.c (.str [61, 32, 112, 32, 61])) .nil))))))))))) (.cons (.asg (.n 2) (.c (.str []))) (.cons (.for (.n 3) .rng1 (.cons (.call false f_law_digit (.cons (.v 0) (.cons (.c (.int 7)) .nil)) 0) .nil) b_law_text_0) (.cons (.ifs (.e (.op .eq (.call false f_law_digit (.cons (.v 0) (.cons (.c (.int 9)) .nil)) 0) (.c (.int 0)))) (.cons (.asg (.n 2) (.op .add (.v 2) (.op .mul (.c (.str [10])) (.op .sub (.op .sub (.c (.int 400)) (.bi .len (.v 2))) (.call false f_law_digit (.cons (.v 0) (.cons (.c (.int 2)) .nil)) 0))))) .nil) .nil) (.cons (.ret (.v 2)) .nil)))))⟩
def b_law_escaped_0 : Sts := (.cons (.asg (.n 1) (.op .add (.v 1) (.dlget [([10], [92, 110]), ([92], [92, 92])] (.v 2) (.v 2)))) .nil)
/-- 27: _law_escaped(_law_text_here) -/
def d_law_escaped : Def := ⟨1, 3,
  (.cons (.asg (.n 1) (.c (.str []))) (.cons (.for (.n 2) .str (.cons (.v 0) .nil) b_law_escaped_0) (.cons (.ret (.v 1)) .nil)))⟩
/-- 28: _law_deed(_law_s) -/
def d_law_deed : Def := ⟨1, 5,
  (.cons (.asg (.n 1) (.lst false (.cons (.c (.str [119, 114, 105, 116, 101])) (.cons (.c (.str [119, 114, 105, 116, 101])) (.cons (.c (.str [114, 101, 110, 97, 109, 101])) (.cons (.c (.str [112, 97, 114, 116])) (.cons (.c (.str [106, 111, 105, 110])) (.cons (.c (.str [97, 119, 97, 121])) (.cons (.c (.str [98, 97, 99, 107])) (.cons (.c (.str [115, 105, 103, 110])) (.cons (.c (.str [102, 97, 109, 105, 108, 121])) (.cons (.c (.str [115, 116, 114, 97, 105, 103, 104, 116])) (.cons (.c (.str [114, 101, 110, 101, 119])) .nil))))))))))))) (.cons (.asg (.n 1) (.idx (.v 1) (.call false f_law_digit (.cons (.v 0) (.cons (.c (.int 11)) .nil)) 0))) (.cons (.par 3 4 (.call false f_law_plain_name (.cons (.v 0) .nil) 0) (.call false f_law_plain_name (.cons (.v 0) .nil) 0)) (.cons (.asg (.n 2) (.idx (.sm .split (.call false f_law_plain_name (.cons (.v 0) .nil) 0) (.cons (.c (.str [47])) .nil)) (.c (.int 0)))) (.cons (.ifs (.e (.op .eq (.v 1) (.c (.str [119, 114, 105, 116, 101])))) (.cons (.ret (.tup (.cons (.v 1) (.cons (.v 3) (.cons (.call false f_law_text (.cons (.v 0) .nil) 0) .nil))))) .nil) .nil) (.cons (.ifs (.e (.op .eq (.v 1) (.c (.str [112, 97, 114, 116])))) (.cons (.ret (.tup (.cons (.v 1) (.cons (.v 3) (.cons (.v 2) (.cons (.v 4) .nil)))))) .nil) .nil) (.cons (.ifs (.e (.op .eq (.v 1) (.c (.str [115, 116, 114, 97, 105, 103, 104, 116])))) (.cons (.ret (.tup (.cons (.v 1) .nil))) .nil) .nil) (.cons (.ifs (.e (.op .isin (.v 1) (.tup (.cons (.c (.str [97, 119, 97, 121])) (.cons (.c (.str [98, 97, 99, 107])) (.cons (.c (.str [114, 101, 110, 101, 119])) .nil)))))) (.cons (.ret (.tup (.cons (.v 1) (.cons (.v 3) .nil)))) .nil) .nil) (.cons (.ret (.tup (.cons (.v 1) (.cons (.v 3) (.cons (.idx (.lst false (.cons (.v 4) (.cons (.op .add (.op .add (.v 4) (.c (.str [35]))) (.v 2)) .nil))) (.bi .int (.and (.op .eq (.v 1) (.c (.str [115, 105, 103, 110]))) (.op .eq (.call false f_law_digit (.cons (.v 0) (.cons (.c (.int 2)) .nil)) 0) (.c (.int 0)))))) .nil))))) .nil)))))))))⟩
def e_law_handed_0 : Ex := (.call false f_law_otherwise (.cons (.v 4) (.cons (.v 1) .nil)) 0)
def b_law_handed_0 : Sts := (.cons (.ifs (.and (.e (.op .eq (.idx (.v 0) (.c (.int 0))) (.c (.str [119, 114, 105, 116, 101])))) (.e (.op .eq (.v 3) (.c (.int 2))))) (.cons (.ex (.sm .append (.v 2) (.cons (.idx (.v 0) (.c (.int 2))) .nil))) .nil) (.cons (.ex (.sm .append (.v 2) (.cons (.sm .join (.c (.str [35])) (.cons (.lc false (.n 4) .lst (.cons (.sm .split (.idx (.v 0) (.v 3)) (.cons (.c (.str [35])) .nil)) .nil) .nil e_law_handed_0 [("_law_one", 4)]) .nil)) .nil))) .nil)) .nil)
/-- 29: _law_handed(_law_deed_here, _law_s) -/
def d_law_handed : Def := ⟨2, 5,
  (.cons (.asg (.n 2) (.lst true (.cons (.idx (.v 0) (.c (.int 0))) .nil))) (.cons (.for (.n 3) .rng2 (.cons (.c (.int 1)) (.cons (.bi .len (.v 0)) .nil)) b_law_handed_0) (.cons (.ret (.bi .tup (.v 2))) .nil)))⟩
/-- 30: _law_row(_law_deed_here) -/
def d_law_row : Def := ⟨1, 1,
  (.cons (.ifs (.e (.op .eq (.idx (.v 0) (.c (.int 0))) (.c (.str [119, 114, 105, 116, 101])))) (.cons (.ret (.op .add (.op .add (.op .add (.c (.str [119, 114, 105, 116, 101, 32])) (.idx (.v 0) (.c (.int 1)))) (.c (.str [58, 32]))) (.call true f_law_escaped (.cons (.idx (.v 0) (.c (.int 2))) .nil) 0))) .nil) .nil) (.cons (.ifs (.e (.op .eq (.idx (.v 0) (.c (.int 0))) (.c (.str [112, 97, 114, 116])))) (.cons (.ret (.op .add (.op .add (.op .add (.op .add (.op .add (.c (.str [112, 97, 114, 116, 32])) (.idx (.v 0) (.c (.int 1)))) (.c (.str [32, 35, 32]))) (.idx (.v 0) (.c (.int 2)))) (.c (.str [32, 62, 32]))) (.idx (.v 0) (.c (.int 3))))) .nil) .nil) (.cons (.ifs (.e (.op .eq (.bi .len (.v 0)) (.c (.int 3)))) (.cons (.ret (.op .add (.op .add (.op .add (.op .add (.idx (.v 0) (.c (.int 0))) (.c (.str [32]))) (.idx (.v 0) (.c (.int 1)))) (.c (.str [32, 62, 32]))) (.idx (.v 0) (.c (.int 2))))) .nil) .nil) (.cons (.ret (.sm .join (.c (.str [32])) (.cons (.v 0) .nil))) .nil))))⟩
def s_law_asked_0 : Sts := (.cons (.ifs (.e (.op .ne (.isx 1 (.v 2)) (.isx 2 (.v 2)))) (.cons (.asg (.n 1) (.tup (.cons (.c (.str [114, 101, 102, 117, 115, 101, 100])) (.cons (.idx (.lst false (.cons (.c (.str [116, 101, 120, 116])) (.cons (.c (.str [110, 97, 109, 101])) .nil))) (.bi .int (.isx 1 (.v 2)))) .nil)))) .nil) .nil) .nil)
/-- 31: _law_asked(_law_ask) -/
def d_law_asked : Def := ⟨1, 3,
  (.cons (.asg (.n 1) (.tup (.cons (.c (.str [114, 101, 102, 117, 115, 101, 100])) (.cons (.c (.str [111, 116, 104, 101, 114])) .nil)))) (.cons (.try 0 (some 2) (.cons (.asg (.n 1) (.tup (.cons (.c (.str [116, 111, 108, 100])) (.cons (.act 0) .nil)))) .nil) s_law_asked_0) (.cons (.ret (.v 1)) .nil)))⟩
/-- 32: _law_spoilt(_law_deed_here, _law_s) -/
def d_law_spoilt : Def := ⟨2, 5,
  (.cons (.asg (.n 2) (.idx (.lst false (.cons (.op .mul (.c (.str [118])) (.c (.int 401))) (.cons (.c .non) (.cons (.c (.int 5)) (.cons (.tup (.cons (.c (.str [97])) .nil)) .nil))))) (.call false f_law_digit (.cons (.v 1) (.cons (.c (.int 4)) .nil)) 0))) (.cons (.asg (.n 3) (.idx (.lst false (.cons (.c (.str [])) (.cons (.c (.str [97, 47, 47, 98])) (.cons (.c (.str [120, 46, 121])) (.cons (.c .non) (.cons (.op .mul (.c (.str [97])) (.c (.int 25))) (.cons (.lst false (.cons (.c (.str [97])) .nil)) .nil))))))) (.call false f_law_digit (.cons (.v 1) (.cons (.c (.int 6)) .nil)) 0))) (.cons (.ifs (.e (.op .eq (.idx (.v 0) (.c (.int 0))) (.c (.str [119, 114, 105, 116, 101])))) (.cons (.ret (.idx (.lst false (.cons (.tup (.cons (.tup (.cons (.c (.str [119, 114, 105, 116, 101])) (.cons (.idx (.v 0) (.c (.int 1))) (.cons (.v 2) .nil)))) (.cons (.c (.str [116, 101, 120, 116])) .nil))) (.cons (.tup (.cons (.tup (.cons (.c (.str [119, 114, 105, 116, 101])) (.cons (.v 3) (.cons (.v 2) .nil)))) (.cons (.c (.str [110, 97, 109, 101])) .nil))) .nil))) (.call false f_law_digit (.cons (.v 1) (.cons (.c (.int 2)) .nil)) 0))) .nil) .nil) (.cons (.ifs (.e (.op .eq (.bi .len (.v 0)) (.c (.int 1)))) (.cons (.ret (.tup (.cons (.tup (.cons (.c (.str [97, 119, 97, 121])) (.cons (.v 3) .nil))) (.cons (.c (.str [110, 97, 109, 101])) .nil)))) .nil) .nil) (.cons (.asg (.n 4) (.op .add (.c (.int 1)) (.call false f_law_digit (.cons (.v 1) (.cons (.op .sub (.bi .len (.v 0)) (.c (.int 1))) .nil)) 0))) (.cons (.ifs (.and (.e (.op .eq (.idx (.v 0) (.c (.int 0))) (.c (.str [112, 97, 114, 116])))) (.e (.op .eq (.v 4) (.c (.int 2))))) (.cons (.asg (.n 3) (.idx (.lst false (.cons (.c (.str [97, 47, 98])) (.cons (.c (.str [97, 98, 99, 100, 101, 102, 103, 104, 105, 106, 107, 108, 109])) (.cons (.c (.str [97, 35, 98])) (.cons (.c (.str [])) (.cons (.c (.int 7)) .nil)))))) (.call false f_law_digit (.cons (.v 1) (.cons (.c (.int 5)) .nil)) 0))) .nil) .nil) (.cons (.ret (.tup (.cons (.op .add (.op .add (.sl (.v 0) .no (.so (.v 4))) (.tup (.cons (.v 3) .nil))) (.sl (.v 0) (.so (.op .add (.v 4) (.c (.int 1)))) .no)) (.cons (.c (.str [110, 97, 109, 101])) .nil)))) .nil)))))))⟩
def q_law_0 : Ex := (.call true f_deed_row (.cons (.v 4) .nil) 0)
def q_law_1 : Ex := (.call true f_read_deed (.cons (.v 5) .nil) 0)
def q_law_2 : Ex := (.call true f_read_deed (.cons (.call true f_law_row (.cons (.v 4) .nil) 0) .nil) 0)
def q_law_3 : Ex := (.call true f_deed_row (.cons (.v 6) .nil) 0)
def b_law_0 : Sts := (.cons (.asg (.n 2) (.call false f_law_state (.cons (.v 1) .nil) 0)) (.cons (.asg (.n 3) (.call false f_law_deed (.cons (.v 2) .nil) 0)) (.cons (.asg (.n 4) (.call false f_law_handed (.cons (.v 3) (.cons (.v 2) .nil)) 0)) (.cons (.asg (.n 5) (.call true f_law_row (.cons (.v 3) .nil) 0)) (.cons (.ifs (.e (.op .ne (.ask f_law_asked q_law_0) (.tup (.cons (.c (.str [116, 111, 108, 100])) (.cons (.v 5) .nil))))) (.cons (.ret (.c (.bl false))) .nil) .nil) (.cons (.ifs (.e (.op .ne (.ask f_law_asked q_law_1) (.tup (.cons (.c (.str [116, 111, 108, 100])) (.cons (.v 3) .nil))))) (.cons (.ret (.c (.bl false))) .nil) .nil) (.cons (.ifs (.e (.op .ne (.ask f_law_asked q_law_2) (.tup (.cons (.c (.str [116, 111, 108, 100])) (.cons (.v 3) .nil))))) (.cons (.ret (.c (.bl false))) .nil) .nil) (.cons (.asg (.t [6, 7]) (.call false f_law_spoilt (.cons (.v 3) (.cons (.v 2) .nil)) 0)) (.cons (.ifs (.e (.op .ne (.ask f_law_asked q_law_3) (.tup (.cons (.c (.str [114, 101, 102, 117, 115, 101, 100])) (.cons (.v 7) .nil))))) (.cons (.ret (.c (.bl false))) .nil) .nil) .nil)))))))))
/-- 33: law(_law_script) -/
def d_law : Def := ⟨1, 8,
  (.cons (.for (.n 1) .lst (.cons (.sl (.op .add (.v 0) (.lst false (.cons (.c (.int 0)) .nil))) .no (.so (.c (.int 12)))) .nil) b_law_0) (.cons (.ret (.c (.bl true))) .nil))⟩
def dfs : List Def := [d_small, d_plain_segment, d_come_to, d_come_to_part, d_name_of, d_part_of, d_checked, d_target, d_target_text, d_check_deed, d_onward_text, d_escaped, d_unescaped, d_deed_row, d_read_write, d_read_part, d_read_two, d_read_one, d_deed_of, d_read_deed, d_law_state, d_law_digit, d_law_plain_name, d_law_gap, d_law_otherwise, d_law_any, d_law_text, d_law_escaped, d_law_deed, d_law_handed, d_law_row, d_law_asked, d_law_spoilt, d_law]
def aN (x : Str) : Str × Option Str := (x, none)
def aM (x m : Str) : Str × Option Str := (x, some m)
def pgAt : List (Str × Option Str) := [aN "small", aN "plain_segment", aN "come_to", aN "come_to_part", aN "name_of", aN "part_of", aN "checked", aN "target", aN "target_text", aN "check_deed", aN "onward_text", aN "escaped", aN "unescaped", aN "deed_row", aN "read_write", aN "read_part", aN "read_two", aN "read_one", aN "deed_of", aN "read_deed"] ++ [aN "_law_state", aN "_law_digit", aN "_law_plain_name", aN "_law_gap", aN "_law_otherwise", aN "_law_any", aN "_law_text", aN "_law_escaped", aN "_law_deed", aN "_law_handed", aN "_law_row", aN "_law_asked", aN "_law_spoilt", aN "law"]
def pgN : List (List Str) := [(["sign"] : List Str), (["segment", "signs", "words", "sign", "word"] : List Str), (["thing", "segments", "name", "segment"] : List Str), (["thing", "part"] : List Str), (["thing", "name"] : List Str), (["thing", "part"] : List Str), (["text"] : List Str), (["written", "words", "name", "part"] : List Str), (["found"] : List Str), (["deed"] : List Str), (["to", "found"] : List Str), (["text"] : List Str), (["row", "found", "at", "sign"] : List Str), (["deed", "word"] : List Str), (["rest", "words", "name", "text"] : List Str), (["rest", "words", "heads", "found"] : List Str), (["word", "rest", "words", "name", "other", "found"] : List Str), (["word", "rest", "name"] : List Str), (["row", "word", "blank", "rest"] : List Str), (["row", "deed"] : List Str), (["_law_cell"] : List Str), (["_law_s", "_law_base", "_law_found"] : List Str), (["_law_s", "_law_some", "_law_found", "_law_k", "_law_bits", "_law_j"] : List Str), (["_law_s", "_law_k"] : List Str), (["_law_name", "_law_s", "_law_found", "_law_sign"] : List Str), (["_law_s", "_law_some"] : List Str), (["_law_s", "_law_some", "_law_found", "_law_k"] : List Str), (["_law_text_here", "_law_found", "_law_sign"] : List Str), (["_law_s", "_law_word", "_law_part", "_law_one", "_law_two"] : List Str), (["_law_deed_here", "_law_s", "_law_found", "_law_k", "_law_one"] : List Str), (["_law_deed_here"] : List Str), (["_law_ask", "_law_found", "e"] : List Str), (["_law_deed_here", "_law_s", "_law_text_here", "_law_bad", "_law_at"] : List Str), (["_law_script", "_law_cell", "_law_s", "_law_deed_here", "_law_handed_here", "_law_row_here", "_law_spoilt_here", "_law_word"] : List Str)]
def pgPs : List (List Str) := [(["sign"] : List Str), (["segment"] : List Str), (["thing"] : List Str), (["thing"] : List Str), (["thing"] : List Str), (["thing"] : List Str), (["text"] : List Str), (["written"] : List Str), (["found"] : List Str), (["deed"] : List Str), (["to"] : List Str), (["text"] : List Str), (["row"] : List Str), (["deed"] : List Str), (["rest"] : List Str), (["rest"] : List Str), (["word", "rest"] : List Str), (["word", "rest"] : List Str), (["row"] : List Str), (["row"] : List Str), (["_law_cell"] : List Str), (["_law_s", "_law_base"] : List Str), (["_law_s"] : List Str), (["_law_s"] : List Str), (["_law_name", "_law_s"] : List Str), (["_law_s"] : List Str), (["_law_s"] : List Str), (["_law_text_here"] : List Str), (["_law_s"] : List Str), (["_law_deed_here", "_law_s"] : List Str), (["_law_deed_here"] : List Str), (["_law_ask"] : List Str), (["_law_deed_here", "_law_s"] : List Str), (["_law_script"] : List Str)]
def pgSt : List Stmt := [top 13, top 14, top 15, top 16, top 17, top 18, top 21, top 22, top 23, top 26, top 27, top 28, top 29, top 30, top 31, top 32, top 33, top 34, top 35, top 36, top 38, top 39, top 40, top 41, top 42, top 43, top 44, top 45, top 46, top 47, top 48, top 49, top 50, top 51]
def pg : Pg where
  dfs := dfs
  at_ := pgAt
  N := pgN
  st := pgSt
  nd := [0, 0, 0, 0, 0, 0, 0, 0, 0, 0, 0, 0, 0, 0, 0, 0, 0, 0, 0, 0, 0, 0, 0, 0, 0, 0, 0, 0, 0, 0, 0, 0, 0, 0]
  cn := (["SignError", "NoName", "NoText", "NoDeed", "NoRow"] : List PySem.Str)
  con := [("PLAIN", (D.str [97, 98, 99, 100, 101, 102, 103, 104, 105, 106, 107, 108, 109, 110, 111, 112, 113, 114, 115, 116, 117, 118, 119, 120, 121, 122, 48, 49, 50, 51, 52, 53, 54, 55, 56, 57])), ("GREAT", (D.str [65, 66, 67, 68, 69, 70, 71, 72, 73, 74, 75, 76, 77, 78, 79, 80, 81, 82, 83, 84, 85, 86, 87, 88, 89, 90])), ("BETWEEN", (D.str [32, 95, 45])), ("MOST_SEGMENTS", (D.int 4)), ("MOST_SIGNS_names", (D.int 24)), ("MOST_PART", (D.int 12)), ("MOST_SIGNS_texts", (D.int 400))]
  sub := [(0, 1, false), (0, 2, false), (0, 0, true), (1, 1, true), (1, 2, false), (1, 0, true), (2, 1, false), (2, 2, true), (2, 0, true), (3, 1, false), (3, 2, false), (3, 0, true), (4, 1, false), (4, 2, false), (4, 0, true)]
  lam := [33]
  tb := [("SIZES", t_SIZES)]
  kn := ([] : List PySem.Str)
  cf := []
  fn := ([] : List PySem.Str)
  mn := ([] : List PySem.Str)
  md := []
  fl := []
  mt := []
  ini := []
theorem pg_plain : plainAll pgSt pgPs pg.nd := ⟨⟨fun _ _ _ _ _ _ _ _ _ _ us hl => match us, hl with | [_], _ => rfl, by decide⟩, ⟨fun _ _ _ _ _ _ _ _ _ _ us hl => match us, hl with | [_], _ => rfl, by decide⟩, ⟨fun _ _ _ _ _ _ _ _ _ _ us hl => match us, hl with | [_], _ => rfl, by decide⟩, ⟨fun _ _ _ _ _ _ _ _ _ _ us hl => match us, hl with | [_], _ => rfl, by decide⟩, ⟨fun _ _ _ _ _ _ _ _ _ _ us hl => match us, hl with | [_], _ => rfl, by decide⟩, ⟨fun _ _ _ _ _ _ _ _ _ _ us hl => match us, hl with | [_], _ => rfl, by decide⟩, ⟨fun _ _ _ _ _ _ _ _ _ _ us hl => match us, hl with | [_], _ => rfl, by decide⟩, ⟨fun _ _ _ _ _ _ _ _ _ _ us hl => match us, hl with | [_], _ => rfl, by decide⟩, ⟨fun _ _ _ _ _ _ _ _ _ _ us hl => match us, hl with | [_], _ => rfl, by decide⟩, ⟨fun _ _ _ _ _ _ _ _ _ _ us hl => match us, hl with | [_], _ => rfl, by decide⟩, ⟨fun _ _ _ _ _ _ _ _ _ _ us hl => match us, hl with | [_], _ => rfl, by decide⟩, ⟨fun _ _ _ _ _ _ _ _ _ _ us hl => match us, hl with | [_], _ => rfl, by decide⟩, ⟨fun _ _ _ _ _ _ _ _ _ _ us hl => match us, hl with | [_], _ => rfl, by decide⟩, ⟨fun _ _ _ _ _ _ _ _ _ _ us hl => match us, hl with | [_], _ => rfl, by decide⟩, ⟨fun _ _ _ _ _ _ _ _ _ _ us hl => match us, hl with | [_], _ => rfl, by decide⟩, ⟨fun _ _ _ _ _ _ _ _ _ _ us hl => match us, hl with | [_], _ => rfl, by decide⟩, ⟨fun _ _ _ _ _ _ _ _ _ _ us hl => match us, hl with | [_, _], _ => rfl, by decide⟩, ⟨fun _ _ _ _ _ _ _ _ _ _ us hl => match us, hl with | [_, _], _ => rfl, by decide⟩, ⟨fun _ _ _ _ _ _ _ _ _ _ us hl => match us, hl with | [_], _ => rfl, by decide⟩, ⟨fun _ _ _ _ _ _ _ _ _ _ us hl => match us, hl with | [_], _ => rfl, by decide⟩, ⟨fun _ _ _ _ _ _ _ _ _ _ us hl => match us, hl with | [_], _ => rfl, by decide⟩, ⟨fun _ _ _ _ _ _ _ _ _ _ us hl => match us, hl with | [_, _], _ => rfl, by decide⟩, ⟨fun _ _ _ _ _ _ _ _ _ _ us hl => match us, hl with | [_], _ => rfl, by decide⟩, ⟨fun _ _ _ _ _ _ _ _ _ _ us hl => match us, hl with | [_], _ => rfl, by decide⟩, ⟨fun _ _ _ _ _ _ _ _ _ _ us hl => match us, hl with | [_, _], _ => rfl, by decide⟩, ⟨fun _ _ _ _ _ _ _ _ _ _ us hl => match us, hl with | [_], _ => rfl, by decide⟩, ⟨fun _ _ _ _ _ _ _ _ _ _ us hl => match us, hl with | [_], _ => rfl, by decide⟩, ⟨fun _ _ _ _ _ _ _ _ _ _ us hl => match us, hl with | [_], _ => rfl, by decide⟩, ⟨fun _ _ _ _ _ _ _ _ _ _ us hl => match us, hl with | [_], _ => rfl, by decide⟩, ⟨fun _ _ _ _ _ _ _ _ _ _ us hl => match us, hl with | [_, _], _ => rfl, by decide⟩, ⟨fun _ _ _ _ _ _ _ _ _ _ us hl => match us, hl with | [_], _ => rfl, by decide⟩, ⟨fun _ _ _ _ _ _ _ _ _ _ us hl => match us, hl with | [_], _ => rfl, by decide⟩, ⟨fun _ _ _ _ _ _ _ _ _ _ us hl => match us, hl with | [_, _], _ => rfl, by decide⟩, ⟨fun _ _ _ _ _ _ _ _ _ _ us hl => match us, hl with | [_], _ => rfl, by decide⟩, trivial⟩
theorem pg_ps : ∀ f, f < pg.st.length → pg.ps f = pgPs.getD f [] := by decide +kernel
theorem pg_chk (K : PySem.W.Frag) (fd : Nat → FuncData) : chkAll (pg.tab K fd) pg.lam 0 pg.dfs pg.N pg.st = true := by kernel_rfl
def loose : List PySem.Str := (["SignError", "NoName", "NoText", "NoDeed", "NoRow", "PLAIN", "GREAT", "BETWEEN", "MOST_SEGMENTS", "MOST_SIGNS_names", "MOST_PART", "small", "plain_segment", "come_to", "come_to_part", "name_of", "part_of", "MOST_SIGNS_texts", "checked", "target"] : List PySem.Str) ++ (["target_text", "SIZES", "check_deed", "onward_text", "escaped", "unescaped", "deed_row", "read_write", "read_part", "read_two", "read_one", "deed_of", "read_deed", "_law_state", "_law_digit", "_law_plain_name", "_law_gap", "_law_otherwise", "_law_any", "_law_text"] : List PySem.Str) ++ (["_law_escaped", "_law_deed", "_law_handed", "_law_row", "_law_asked", "_law_spoilt"] : List PySem.Str)
abbrev theR : PySem.W.OpenRow := PySem.W.OpenLaw.row PySem.Challenge.rw_signsleft_k60_rows_of_deeds
abbrev hk : PySem.W.Hook := hookX 5 pg.fas pg.fns pg.xt
def ob (s : PySem.W.SharedT) : AlY := obsXG 5 pg.fas pg.fns pg.xt (HandSHeadRun.getT s)
theorem ob_eq (s : PySem.W.SharedT) : ob s = hk.obs s.abs := obsXG_eq (HandSHeadRun.getT_eq s)
theorem run0 (w : World) : HandSHeadRun.RunEq theR (PySem.W.view theR.prog [51]) hk ob 6000 loose (fixW w false) := by
  intro os
  kernel_rfl
theorem run1 (w : World) : HandSHeadRun.RunEq theR (PySem.W.view theR.prog [51]) hk ob 6000 loose (fixW w true) := by
  intro os
  kernel_rfl
theorem run (w : World) : HandSHeadRun.RunEq theR (PySem.W.view theR.prog [51]) hk ob 6000 loose w := all_worlds (P := fun w => HandSHeadRun.RunEq theR (PySem.W.view theR.prog [51]) hk ob 6000 loose w) (fun w b => match b with
  | false => run0 w
  | true => run1 w) w
end Vx

set_option maxHeartbeats 0
/-! ### names: the plain law -/
namespace Vx
open PySem L2
abbrev P36 : Tx := [97, 98, 99, 100, 101, 102, 103, 104, 105, 106, 107, 108, 109, 110, 111, 112, 113, 114, 115, 116, 117, 118, 119, 120, 121, 122, 48, 49, 50, 51, 52, 53, 54, 55, 56, 57]
abbrev G26 : Tx := [65, 66, 67, 68, 69, 70, 71, 72, 73, 74, 75, 76, 77, 78, 79, 80, 81, 82, 83, 84, 85, 86, 87, 88, 89, 90]
abbrev B3 : Tx := [32, 95, 45]
def sp1 (s : Nat) (acc : Tx) : Tx → List Tx
  | [] => [acc]
  | c :: r => if c = s then acc :: sp1 s [] r else sp1 s (acc ++ [c]) r
theorem spl1 (s : Nat) : ∀ (l acc : Tx), TL.spl [s] 0 acc l = sp1 s acc l
  | [], acc => rfl
  | c :: r, acc => by
    unfold TL.spl sp1
    have e : (TL.pre [s] (c :: r) = true) = (c = s) := by
      show ((List.take 1 (c :: r) == [s]) = true) = _
      simp
    simp only [e]
    split
    · show acc :: TL.spl [s] 0 [] r = _
      rw [spl1 s r []]
    · exact spl1 s r _
/-- a sign made plain -/
def nc (c : Nat) : Option Nat := if c ∈ P36 then some c else if c ∈ G26 then some (c + 32) else if c ∈ B3 then some 95 else none
def smallF (c : Nat) : D := match nc c with
  | some x => .str [x]
  | none => .non
def fstep (z : Tx × Bool) (c : Nat) : Tx × Bool := if c = 95 then (z.1, decide (z.1 ≠ [])) else (z.1 ++ (if z.2 then [95] else []) ++ [c], false)
theorem fstep_us (z : Tx × Bool) : fstep z 95 = (z.1, decide (z.1 ≠ [])) := rfl
theorem fstep_ne {z : Tx × Bool} {c : Nat} (h : c ≠ 95) : fstep z c = (z.1 ++ (if z.2 then [95] else []) ++ [c], false) := by
  unfold fstep; rw [if_neg h]
def fold (u : Tx) : Tx := (u.foldl fstep ([], false)).1
def ncs : Tx → Option Tx
  | [] => some []
  | c :: r => match nc c, ncs r with
    | some x, some u => some (x :: u)
    | _, _ => none
def sgN (u : Tx) : D := if fold u = [] then .non else .str (fold u)
def segD (t : Tx) : D := match ncs t with
  | none => .non
  | some u => sgN u
def joinO (xs : List D) : D := match unStr xs with
  | none => .non
  | some ss => if 4 < ss.length ∨ 24 < (TL.joinL [47] ss).length then .non else .str (TL.joinL [47] ss)
def nameD (t : Tx) : D := joinO ((sp1 47 [] t).map segD)
/-! words and the fold -/
theorem joinL_snoc (s : Tx) (w : Tx) : ∀ (ps : List Tx), ps ≠ [] → TL.joinL s (ps ++ [w]) = TL.joinL s ps ++ (s ++ w)
  | [], h => absurd rfl h
  | [p], _ => rfl
  | p :: q :: r, _ => by
    show p ++ (s ++ TL.joinL s ((q :: r) ++ [w])) = p ++ (s ++ TL.joinL s (q :: r)) ++ (s ++ w)
    rw [joinL_snoc s w (q :: r) (by simp)]
    simp [List.append_assoc]
theorem joinL_tail (s : Tx) (w x : Tx) (ps : List Tx) : TL.joinL s (ps ++ [w ++ x]) = TL.joinL s (ps ++ [w]) ++ x := by
  cases ps with
  | nil => rfl
  | cons p r =>
    rw [joinL_snoc s _ _ (by simp), joinL_snoc s _ _ (by simp)]
    simp [List.append_assoc]
theorem joinL_nil {s : Tx} : ∀ {ps : List Tx}, (∀ p ∈ ps, p ≠ []) → (TL.joinL s ps = [] ↔ ps = [])
  | [], _ => by simp [TL.joinL]
  | [p], h => by
    have := h p List.mem_cons_self
    show p = [] ↔ _
    simp [this]
  | p :: q :: r, h => by
    have := h p List.mem_cons_self
    show p ++ _ = [] ↔ _
    simp [this]
def ww (acc : Tx) : List Tx := if acc = [] then [] else [acc]
theorem fold_words : ∀ (u : Tx) (pw : List Tx) (acc : Tx), (∀ w ∈ pw, w ≠ []) → (u.foldl fstep (TL.joinL [95] (pw ++ ww acc), decide (acc = [] ∧ pw ≠ []))).1 = TL.joinL [95] (pw ++ (sp1 95 acc u).filter fun w => decide (w ≠ []))
  | [], pw, acc, h => by
    unfold sp1 ww
    by_cases e : acc = [] <;> simp [e]
  | c :: r, pw, acc, h => by
    rw [List.foldl_cons]
    unfold sp1
    by_cases hc : c = 95
    · have hpw : ∀ w ∈ pw ++ ww acc, w ≠ [] := fun w hw => by
        rcases List.mem_append.mp hw with hw | hw
        · exact h w hw
        · unfold ww at hw
          split at hw
          · cases hw
          · rw [List.mem_singleton.mp hw]; assumption
      have ih := fold_words r (pw ++ ww acc) [] hpw
      have e1 : fstep (TL.joinL [95] (pw ++ ww acc), decide (acc = [] ∧ pw ≠ [])) c = (TL.joinL [95] (pw ++ ww acc ++ ww []), decide (([] : Tx) = [] ∧ pw ++ ww acc ≠ [])) := by
        have e0 : decide (TL.joinL [95] (pw ++ ww acc) ≠ []) = decide (pw ++ ww acc ≠ []) := by
          rw [decide_eq_decide]
          exact not_congr (joinL_nil hpw)
        unfold fstep
        rw [if_pos hc]
        show (TL.joinL [95] (pw ++ ww acc), decide (TL.joinL [95] (pw ++ ww acc) ≠ [])) = (TL.joinL [95] (pw ++ ww acc ++ []), decide (([] : Tx) = [] ∧ pw ++ ww acc ≠ []))
        rw [List.append_nil, e0]
        simp
      rw [e1, ih, if_pos hc, List.filter_cons]
      by_cases e : acc = []
      · simp [e, ww]
      · simp [e, ww]
    · have ih := fold_words r pw (acc ++ [c]) h
      have e1 : fstep (TL.joinL [95] (pw ++ ww acc), decide (acc = [] ∧ pw ≠ [])) c = (TL.joinL [95] (pw ++ ww (acc ++ [c])), decide (acc ++ [c] = [] ∧ pw ≠ [])) := by
        unfold fstep
        rw [if_neg hc]
        have e2 : ww (acc ++ [c]) = [acc ++ [c]] := by simp [ww]
        rw [e2]
        by_cases e : acc = []
        · subst e
          by_cases ep : pw = []
          · subst ep; simp [ww, TL.joinL]
          · simp [ww, ep, joinL_snoc [95] _ _ ep]
        · have e3 : ww acc = [acc] := by simp [ww, e]
          rw [e3, joinL_tail]
          simp [e]
      rw [e1, ih, if_neg hc]
theorem fold_eq (u : Tx) : fold u = TL.joinL [95] ((sp1 95 [] u).filter fun w => decide (w ≠ [])) := by
  have := fold_words u [] [] (by simp)
  simpa [ww, TL.joinL, fold] using this
/-! the fold of a fold -/
theorem fold_inv : ∀ (u : Tx) (f : Tx) (g : Bool), f.foldl fstep ([], false) = (f, false) → (g = true → f ≠ []) → ∃ g', u.foldl fstep (f, g) = ((u.foldl fstep (f, g)).1, g') ∧ (u.foldl fstep (f, g)).1.foldl fstep ([], false) = ((u.foldl fstep (f, g)).1, false)
  | [], f, g, h, _ => ⟨g, rfl, h⟩
  | c :: r, f, g, h, hg => by
    rw [List.foldl_cons]
    by_cases hc : c = 95
    · have e : fstep (f, g) c = (f, decide (f ≠ [])) := by unfold fstep; rw [if_pos hc]
      rw [e]
      exact fold_inv r f _ h (by simp)
    · have e : fstep (f, g) c = (f ++ (if g then [95] else []) ++ [c], false) := by unfold fstep; rw [if_neg hc]
      rw [e]
      refine fold_inv r _ _ ?_ (by simp)
      rw [List.foldl_append, List.foldl_append, h]
      cases g with
      | false => simp [fstep, hc]
      | true =>
        have := hg rfl
        simp [fstep, hc, this]
theorem fold_fold (u : Tx) : (fold u).foldl fstep ([], false) = (fold u, false) := by
  obtain ⟨g, _, h⟩ := fold_inv u [] false rfl (by simp)
  exact h
def okN1 (c : Nat) : Prop := c ∈ P36 ∨ c = 95
theorem nc_ok {c x : Nat} (h : nc c = some x) : okN1 x := by
  unfold nc at h
  split at h
  · cases h; exact .inl ‹_›
  · split at h
    · cases h
      rename_i hg
      have : ∀ c ∈ G26, c + 32 ∈ P36 := by decide
      exact .inl (this c hg)
    · split at h
      · cases h; exact .inr rfl
      · cases h
theorem ncs_ok : ∀ {t u : Tx}, ncs t = some u → (∀ c ∈ u, okN1 c) ∧ u.length = t.length
  | [], u, h => by cases h; exact ⟨by simp, rfl⟩
  | c :: r, u, h => by
    unfold ncs at h
    split at h
    · rename_i x v hx hv
      cases h
      obtain ⟨i1, i2⟩ := ncs_ok hv
      refine ⟨fun y hy => ?_, by simp [i2]⟩
      rcases List.mem_cons.mp hy with rfl | hy
      · exact nc_ok hx
      · exact i1 y hy
    · cases h
theorem fold_ok : ∀ (u : Tx) (f : Tx) (g : Bool), (∀ c ∈ u, okN1 c) → (∀ c ∈ f, okN1 c) → ∀ c ∈ (u.foldl fstep (f, g)).1, okN1 c
  | [], f, g, _, h => h
  | c :: r, f, g, hu, h => by
    rw [List.foldl_cons]
    have hr := fun x hx => hu x (List.mem_cons_of_mem _ hx)
    unfold fstep
    split
    · exact fold_ok r f _ hr h
    · refine fold_ok r _ _ hr fun x hx => ?_
      rcases List.mem_append.mp hx with hx | hx
      · rcases List.mem_append.mp hx with hx | hx
        · exact h x hx
        · cases g
          · simp at hx
          · exact .inr (by simpa using hx)
      · rw [List.mem_singleton.mp hx]
        exact hu c List.mem_cons_self
theorem fold_len : ∀ (u : Tx) (f : Tx) (g : Bool), (u.foldl fstep (f, g)).1.length ≤ f.length + 2 * u.length
  | [], f, g => by simp
  | c :: r, f, g => by
    rw [List.foldl_cons]
    by_cases hc : c = 95
    · subst hc
      rw [fstep_us]
      have := fold_len r f (decide (f ≠ []))
      simp only [List.length_cons]; omega
    · rw [fstep_ne hc]
      have := fold_len r (f ++ (if g then [95] else []) ++ [c]) false
      have h2 : (if g = true then [95] else ([] : Tx)).length ≤ 1 := by cases g <;> simp
      simp only [List.length_append, List.length_cons, List.length_nil] at this ⊢
      omega
theorem nc_self {c : Nat} (h : okN1 c) : nc c = some c := by
  rcases h with h | rfl
  · unfold nc; rw [if_pos h]
  · decide
/-! other ways to write a name -/
inductive Alt : Tx → Tx → Prop
  | nil : Alt [] []
  | cons {c x : Nat} {d o : Tx} (hc : c ≠ 95) (hx : x = c ∨ x = uppC c) (h : Alt d o) : Alt (c :: d) (x :: o)
  | us {g : Tx} {d o : Tx} (hg : g ≠ []) (hb : ∀ c ∈ g, c ∈ B3) (h : Alt d o) : Alt (95 :: d) (g ++ o)
theorem Alt.snoc {c x : Nat} (hc : c ≠ 95) (hx : x = c ∨ x = uppC c) {d o : Tx} (h : Alt d o) : Alt (d ++ [c]) (o ++ [x]) := by
  induction h with
  | nil => exact .cons hc hx .nil
  | cons hc' hx' _ ih => exact .cons hc' hx' ih
  | us hg hb _ ih =>
    rw [List.append_assoc]
    exact .us hg hb ih
theorem Alt.snocU {g : Tx} (hg : g ≠ []) (hb : ∀ c ∈ g, c ∈ B3) {d o : Tx} (h : Alt d o) : Alt (d ++ [95]) (o ++ g) := by
  induction h with
  | nil => simpa using Alt.us hg hb .nil
  | cons hc' hx' _ ih => exact .cons hc' hx' ih
  | us hg hb _ ih =>
    rw [List.append_assoc]
    exact .us hg hb ih
theorem Alt.refl : ∀ (d : Tx), Alt d d
  | [] => .nil
  | c :: r => by
    by_cases h : c = 95
    · subst h
      exact Alt.us (g := [95]) (by simp) (by simp [B3]) (Alt.refl r)
    · exact .cons h (.inl rfl) (Alt.refl r)
def Seg (a o : Tx) : Prop := ∃ p b q, o = p ++ b ++ q ∧ (∀ c ∈ p, c ∈ B3) ∧ (∀ c ∈ q, c ∈ B3) ∧ Alt a b
theorem b3_47 : ∀ c ∈ B3, c ≠ 47 := by decide
theorem sp1_free {s : Nat} : ∀ {g acc r : Tx}, (∀ c ∈ g, c ≠ s) → sp1 s acc (g ++ r) = sp1 s (acc ++ g) r
  | [], acc, r, _ => by simp
  | c :: g, acc, r, h => by
    show (if c = s then _ else sp1 s (acc ++ [c]) (g ++ r)) = _
    rw [if_neg (h c List.mem_cons_self), sp1_free fun x hx => h x (List.mem_cons_of_mem _ hx)]
    simp
inductive All2 {α β : Type} (R : α → β → Prop) : List α → List β → Prop
  | nil : All2 R [] []
  | cons {a : α} {b : β} {as : List α} {bs : List β} (h : R a b) (t : All2 R as bs) : All2 R (a :: as) (b :: bs)
def okC1 (c : Nat) : Prop := okN1 c ∨ c = 47
theorem p36_upp : ∀ c ∈ P36, uppC c ≠ 47 ∧ c ≠ 47 := by decide
theorem sp1_alt {suf : Tx} (hs : ∀ c ∈ suf, c ∈ B3) : ∀ {d o : Tx}, Alt d o → (∀ c ∈ d, okC1 c) → ∀ {acc p b : Tx}, (∀ c ∈ p, c ∈ B3) → Alt acc b → All2 Seg (sp1 47 acc d) (sp1 47 (p ++ b) (o ++ suf)) := by
  intro d o h
  induction h with
  | nil =>
    intro _ acc p b hp hb
    have e : sp1 47 (p ++ b) ([] ++ suf) = [p ++ b ++ suf] := by
      have := sp1_free (s := 47) (g := suf) (acc := p ++ b) (r := []) fun c hc => b3_47 c (hs c hc)
      simpa [sp1] using this
    rw [e]
    exact .cons ⟨p, b, suf, rfl, hp, hs, hb⟩ .nil
  | @cons c x d o hc hx h ih =>
    intro hd acc p b hp hb
    have hd' := fun y hy => hd y (List.mem_cons_of_mem _ hy)
    by_cases h47 : c = 47
    · subst h47
      have hx' : x = 47 := by rcases hx with rfl | rfl <;> decide
      subst hx'
      show All2 Seg (if 47 = 47 then _ else _) (if 47 = 47 then _ else _)
      rw [if_pos rfl, if_pos rfl]
      exact .cons ⟨p, b, [], by simp, hp, by simp, hb⟩ (ih hd' (acc := []) (p := []) (b := []) (by simp) .nil)
    · have hcp : c ∈ P36 := by
        rcases hd c List.mem_cons_self with (h | h) | h
        · exact h
        · exact absurd h hc
        · exact absurd h h47
      have hx47 : x ≠ 47 := by
        rcases hx with rfl | rfl
        · exact h47
        · exact (p36_upp c hcp).1
      show All2 Seg (if c = 47 then _ else sp1 47 (acc ++ [c]) d) (if x = 47 then _ else sp1 47 (p ++ b ++ [x]) (o ++ suf))
      rw [if_neg h47, if_neg hx47, List.append_assoc]
      exact ih hd' hp (hb.snoc hc hx)
  | @us g d o hg hgb h ih =>
    intro hd acc p b hp hb
    have hd' := fun y hy => hd y (List.mem_cons_of_mem _ hy)
    show All2 Seg (if 95 = 47 then _ else sp1 47 (acc ++ [95]) d) _
    rw [if_neg (by decide), List.append_assoc, sp1_free fun c hc => b3_47 c (hgb c hc), List.append_assoc]
    exact ih hd' hp (hb.snocU hg hgb)
theorem ncs_cons (c : Nat) (r : Tx) : ncs (c :: r) = match nc c, ncs r with
    | some x, some u => some (x :: u)
    | _, _ => none := rfl
theorem ncs_append : ∀ {a b : Tx}, ncs (a ++ b) = (ncs a).bind fun u => (ncs b).map (u ++ ·)
  | [], b => by simp [ncs]
  | c :: a, b => by
    rw [List.cons_append, ncs_cons, ncs_cons, ncs_append (a := a)]
    cases nc c <;> cases ncs a <;> cases ncs b <;> rfl
theorem ncs_b3 : ∀ {g : Tx}, (∀ c ∈ g, c ∈ B3) → ncs g = some (List.replicate g.length 95)
  | [], _ => rfl
  | c :: g, h => by
    have : ∀ c ∈ B3, nc c = some 95 := by decide
    unfold ncs
    rw [this c (h c List.mem_cons_self), ncs_b3 fun x hx => h x (List.mem_cons_of_mem _ hx)]
    rfl
theorem rep_step : ∀ (n : Nat) (f : Tx) (g : Bool), (List.replicate (n + 1) 95).foldl fstep (f, g) = (f, decide (f ≠ []))
  | 0, f, g => rfl
  | n + 1, f, g => by
    rw [List.replicate_succ, List.foldl_cons]
    exact rep_step n f _
theorem nc_upp : ∀ c ∈ P36, nc (uppC c) = some c := by decide
theorem alt_norm {d o : Tx} (h : Alt d o) : (∀ c ∈ d, okN1 c) → ∃ u, ncs o = some u ∧ ∀ z, u.foldl fstep z = d.foldl fstep z := by
  induction h with
  | nil => exact fun _ => ⟨[], rfl, fun _ => rfl⟩
  | @cons c x d o hc hx h ih =>
    intro hd
    obtain ⟨u, e, f⟩ := ih fun y hy => hd y (List.mem_cons_of_mem _ hy)
    have hcp : c ∈ P36 := (hd c List.mem_cons_self).resolve_right hc
    have hn : nc x = some c := by
      rcases hx with rfl | rfl
      · exact nc_self (.inl hcp)
      · exact nc_upp c hcp
    refine ⟨c :: u, ?_, fun z => by rw [List.foldl_cons, List.foldl_cons, f]⟩
    unfold ncs
    rw [hn, e]
  | @us g d o hg hgb h ih =>
    intro hd
    obtain ⟨u, e, f⟩ := ih fun y hy => hd y (List.mem_cons_of_mem _ hy)
    refine ⟨List.replicate g.length 95 ++ u, by rw [ncs_append, ncs_b3 hgb, e]; rfl, fun z => ?_⟩
    rw [List.foldl_append, List.foldl_cons]
    obtain ⟨n, hn⟩ : ∃ n, g.length = n + 1 := ⟨g.length - 1, by have := List.length_pos_iff.mpr hg; omega⟩
    obtain ⟨a, b⟩ := z
    rw [hn, rep_step, f]
    rfl
theorem rep_fst (n : Nat) (z : Tx × Bool) : ((List.replicate n 95).foldl fstep z).1 = z.1 := by
  cases n with
  | zero => rfl
  | succ n => obtain ⟨a, b⟩ := z; rw [rep_step]
theorem rep_nil (n : Nat) : (List.replicate n 95).foldl fstep ([], false) = ([], false) := by
  cases n with
  | zero => rfl
  | succ n => rw [rep_step]; rfl
/-- a segment written otherwise -/
theorem seg_alt {d o : Tx} (h : Seg d o) (hd : ∀ c ∈ d, okN1 c) : segD o = segD d := by
  obtain ⟨p, b, q, rfl, hp, hq, ha⟩ := h
  obtain ⟨u, e, f⟩ := alt_norm ha hd
  obtain ⟨u', e', f'⟩ := alt_norm (Alt.refl d) hd
  have h1 : ncs (p ++ b ++ q) = some (List.replicate p.length 95 ++ u ++ List.replicate q.length 95) := by
    rw [ncs_append, ncs_append, ncs_b3 hp, ncs_b3 hq, e]; rfl
  unfold segD
  rw [h1, e']
  have h2 : fold (List.replicate p.length 95 ++ u ++ List.replicate q.length 95) = fold u' := by
    unfold fold
    rw [List.foldl_append, List.foldl_append, rep_nil, rep_fst, f, f']
  show sgN _ = sgN _
  unfold sgN
  rw [h2]
theorem ncs_self : ∀ {d : Tx}, (∀ c ∈ d, okN1 c) → ncs d = some d
  | [], _ => rfl
  | c :: r, h => by
    unfold ncs
    rw [nc_self (h c List.mem_cons_self), ncs_self fun x hx => h x (List.mem_cons_of_mem _ hx)]
theorem segD_str {t s : Tx} (h : segD t = .str s) : (∀ c ∈ s, okN1 c) ∧ segD s = .str s ∧ s.length ≤ 2 * t.length := by
  unfold segD at h
  cases e : ncs t with
  | none => rw [e] at h; cases h
  | some u =>
    rw [e] at h
    have h1 : sgN u = .str s := h
    unfold sgN at h1
    split at h1
    · cases h1
    · rename_i hne
      cases h1
      obtain ⟨o1, o2⟩ := ncs_ok e
      have hok : ∀ c ∈ fold u, okN1 c := fold_ok u [] false o1 (by simp)
      refine ⟨hok, ?_, ?_⟩
      · unfold segD
        rw [ncs_self hok]
        show sgN (fold u) = _
        have : fold (fold u) = fold u := by
          have := fold_fold u
          unfold fold at this ⊢
          rw [this]
        unfold sgN
        rw [this, if_neg hne]
      · have := fold_len u [] false
        rw [o2] at this
        simpa [fold] using this
theorem unStr_map : ∀ (ss : List Tx), unStr (ss.map .str) = some ss
  | [] => rfl
  | s :: r => by
    show (unStr (r.map .str)).map (s :: ·) = _
    rw [unStr_map r]; rfl
theorem unStr_eq : ∀ {xs : List D} {ss : List Tx}, unStr xs = some ss → xs = ss.map .str
  | [], ss, h => by cases h; rfl
  | x :: xs, ss, h => by
    cases x <;> first | (cases h; done) | skip
    rename_i s
    cases e : unStr xs with
    | none =>
      have h' : (unStr xs).map (s :: ·) = some ss := h
      rw [e] at h'; cases h'
    | some r =>
      have h' : (unStr xs).map (s :: ·) = some ss := h
      rw [e] at h'; cases h'
      rw [unStr_eq e]; rfl
theorem sp1_ne (s : Nat) : ∀ (l acc : Tx), sp1 s acc l ≠ []
  | [], acc => by simp [sp1]
  | c :: r, acc => by
    unfold sp1
    split
    · simp
    · exact sp1_ne s r _
theorem all2_map {R : Tx → Tx → Prop} {f : Tx → D} (h : ∀ a b, R a b → f b = f a) : ∀ {as bs : List Tx}, All2 R as bs → bs.map f = as.map f
  | _, _, .nil => rfl
  | _, _, .cons r t => by
    simp only [List.map_cons]
    rw [h _ _ r, all2_map h t]
theorem all2_mem {R : Tx → Tx → Prop} {P : Tx → Prop} : ∀ {as bs : List Tx}, All2 R as bs → (∀ a ∈ as, P a) → All2 (fun a b => R a b ∧ P a) as bs
  | _, _, .nil, _ => .nil
  | _, _, .cons r t, h => .cons ⟨r, h _ List.mem_cons_self⟩ (all2_mem t fun a ha => h a (List.mem_cons_of_mem _ ha))
theorem okC1_of {ss : List Tx} (h : ∀ s ∈ ss, ∀ c ∈ s, okN1 c) : ∀ c ∈ TL.joinL [47] ss, okC1 c := by
  induction ss with
  | nil => intro c hc; cases hc
  | cons s r ih =>
    cases r with
    | nil => intro c hc; exact .inl (h s List.mem_cons_self c hc)
    | cons q r =>
      intro c hc
      have hc' : c ∈ s ++ ([47] ++ TL.joinL [47] (q :: r)) := hc
      rcases List.mem_append.mp hc' with hc | hc
      · exact .inl (h s List.mem_cons_self c hc)
      · rcases List.mem_append.mp hc with hc | hc
        · exact .inr (by simpa using hc)
        · exact ih (fun s hs => h s (List.mem_cons_of_mem _ hs)) c hc
/-- THE LAW: a name written otherwise is the same name -/
theorem name_alt {t d o pre suf : Tx} (h : nameD t = .str d) (ha : Alt d o) (hp : ∀ c ∈ pre, c ∈ B3) (hs : ∀ c ∈ suf, c ∈ B3) : nameD (pre ++ o ++ suf) = .str d := by
  unfold nameD joinO at h
  cases e : unStr ((sp1 47 [] t).map segD) with
  | none => rw [e] at h; cases h
  | some ss =>
    rw [e] at h
    dsimp only at h
    split at h
    · cases h
    · rename_i hb
      cases h
      have e1 := unStr_eq e
      have hss : ss ≠ [] := fun z => by
        rw [z] at e1
        exact sp1_ne 47 t [] (List.map_eq_nil_iff.mp e1)
      have hseg : ∀ s ∈ ss, (∀ c ∈ s, okN1 c) ∧ segD s = .str s := fun s hs => by
        have : D.str s ∈ (sp1 47 [] t).map segD := by rw [e1]; exact List.mem_map.mpr ⟨s, hs, rfl⟩
        obtain ⟨t', _, e2⟩ := List.mem_map.mp this
        exact ⟨(segD_str e2).1, (segD_str e2).2.1⟩
      have h47 : ∀ s ∈ ss, (47 : Nat) ∉ s := fun s hs hm => by
        rcases (hseg s hs).1 47 hm with h | h
        · exact absurd h (by decide)
        · exact absurd h (by decide)
      have hsp : sp1 47 [] (TL.joinL [47] ss) = ss := by
        rw [← spl1]
        exact TL.spl_join hss h47
      have hA := sp1_alt hs ha (okC1_of fun s hs => (hseg s hs).1) (acc := []) (p := pre) (b := []) hp .nil
      rw [hsp, List.append_nil] at hA
      have hsp2 : sp1 47 [] (pre ++ o ++ suf) = sp1 47 pre (o ++ suf) := by
        rw [List.append_assoc, sp1_free fun c hc => b3_47 c (hp c hc)]
        rfl
      have hm : (sp1 47 [] (pre ++ o ++ suf)).map segD = ss.map segD := by
        rw [hsp2]
        exact all2_map (R := fun a b => Seg a b ∧ ∀ c ∈ a, okN1 c) (fun a b h => seg_alt h.1 h.2) (all2_mem hA fun s hs => (hseg s hs).1)
      have hm2 : ss.map segD = ss.map .str := List.map_congr_left fun s hs => (hseg s hs).2
      unfold nameD joinO
      rw [hm, hm2, unStr_map]
      dsimp only
      rw [if_neg hb]
end Vx

set_option maxHeartbeats 400000
namespace Vx
open PySem L2
noncomputable abbrev cl (k f : Nat) (ws : List W) (l : Loc) : Res W := Vx.call pg.pt k f ws l
noncomputable abbrev CL (k : Nat) : Nat → List W → Loc → Res W := Vx.call pg.pt k
noncomputable def CF (k : Nat) : Cf := cfK pg.pt k
@[simp] theorem CF_fn (k : Nat) : (CF k).fn = CL k := rfl
@[simp] theorem CF_sub (k : Nat) : (CF k).sub = pg.subF := rfl
@[simp] theorem CF_fl (k : Nat) : (CF k).fl = look3 pg.fl := rfl
@[simp] theorem CF_mt (k : Nat) : (CF k).mt = look3 pg.mt := rfl
theorem CF_ini (k c : Nat) : (CF k).ini c = pg.ini.lookup c := rfl
theorem CF_ask (k : Nat) : (CF k).ask = ask pg.pt (CL k) := rfl
theorem cl_eq {k f : Nat} {df : Def} {ws : List W} {l : Loc} (e : pg.dfs[f]? = some df) (h : ws.length = df.np) : cl (k + 1) f ws l = (evSs (CF k) df.body (startE df.nl ws) l).res := by
  show (match pg.dfs[f]? with
    | some df => if ws.length = df.np then (evSs (CF k) df.body (startE df.nl ws) l).res else .bad
    | none => .bad) = _
  rw [e]
  dsimp only
  rw [if_pos h]
theorem fnCall_f (cf : Nat → List W → Loc → Res W) (f : Nat) (ws : List W) (l : Loc) : fnCall cf false f ws l = cf f ws l := rfl
theorem stays_no (l0 : Loc) : stays none l0 = fun _ => True := rfl
@[simp] theorem pre_self (l : Loc) : l <+: l := List.prefix_refl l
@[simp] theorem pre_app (l r : Loc) : l <+: l ++ r := List.prefix_append l r
theorem rop_ {cf : Nat → List W → Loc → Res W} {l l' : Loc} {f : Nat} {ws : List W} {x : D} (h : cf f ws l = .ok (.d x) l') (hp : l <+: l') : fnCall cf true f ws l = .ok (.d x) l := by
  show roRes (cf f ws l) l = _
  rw [h]
  unfold roRes
  dsimp only
  rw [if_pos hp]
theorem roxp_ {cf : Nat → List W → Loc → Res W} {l l' : Loc} {f c : Nat} {p : D} {ws : List W} (h : cf f ws l = .exc c p l') (hp : l <+: l') : fnCall cf true f ws l = .exc c p l := by
  show roRes (cf f ws l) l = _
  rw [h]
  unfold roRes
  dsimp only
  rw [if_pos hp]
theorem ro_ {cf : Nat → List W → Loc → Res W} {l : Loc} {f : Nat} {ws : List W} {x : D} (h : cf f ws l = .ok (.d x) l) : fnCall cf true f ws l = .ok (.d x) l := rop_ h (List.prefix_refl _)
theorem rox_ {cf : Nat → List W → Loc → Res W} {l : Loc} {f c : Nat} {p : D} {ws : List W} (h : cf f ws l = .exc c p l) : fnCall cf true f ws l = .exc c p l := roxp_ h (List.prefix_refl _)
theorem mk1 (a : D) (l : Loc) : mkLst false [.d a] l = .ok (.d (.lst [a])) l := rfl
theorem mk2 (a b : D) (l : Loc) : mkLst false [.d a, .d b] l = .ok (.d (.lst [a, b])) l := rfl
theorem mk3 (a b c : D) (l : Loc) : mkLst false [.d a, .d b, .d c] l = .ok (.d (.lst [a, b, c])) l := rfl
theorem mk4 (a b c d : D) (l : Loc) : mkLst false [.d a, .d b, .d c, .d d] l = .ok (.d (.lst [a, b, c, d])) l := rfl
theorem mk5 (a b c d e : D) (l : Loc) : mkLst false [.d a, .d b, .d c, .d d, .d e] l = .ok (.d (.lst [a, b, c, d, e])) l := rfl
theorem mkm (ws : List W) (l : Loc) (h : ws.length ≤ 16777216) : mkLst true ws l = .ok (.r l.length) (l ++ [.lst ws]) := by simp [mkLst, h]
theorem mt1 (a : D) (l : Loc) : mkTup [.d a] l = .ok (.d (.tup [a])) l := rfl
theorem mt2 (a b : D) (l : Loc) : mkTup [.d a, .d b] l = .ok (.d (.tup [a, b])) l := rfl
theorem mt3 (a b c : D) (l : Loc) : mkTup [.d a, .d b, .d c] l = .ok (.d (.tup [a, b, c])) l := rfl
theorem mt4 (a b c d : D) (l : Loc) : mkTup [.d a, .d b, .d c, .d d] l = .ok (.d (.tup [a, b, c, d])) l := rfl
theorem pos_of {k : Nat} (h : 1 ≤ k) : ∃ j, k = j + 1 := ⟨k - 1, by omega⟩
/-- the generator's state at n -/
def VS (l : Loc) (n : Nat) : Prop := ∃ a b c : Int, 0 ≤ a ∧ 0 ≤ c ∧ c < 4294967296 ∧ l[n]? = some (.lst [.d (.int a), .d (.int b), .d (.int c)])
/-- what stands elsewhere stays -/
def Fr (n : Nat) (l l' : Loc) : Prop := l.length ≤ l'.length ∧ ∀ m, m < l.length → m ≠ n → l'[m]? = l[m]?
theorem Fr.refl {n : Nat} {l : Loc} : Fr n l l := ⟨Nat.le_refl _, fun _ _ _ => rfl⟩
theorem Fr.trans {n : Nat} {a b c : Loc} (h : Fr n a b) (k : Fr n b c) : Fr n a c := ⟨Nat.le_trans h.1 k.1, fun m hm hn => (k.2 m (Nat.lt_of_lt_of_le hm h.1) hn).trans (h.2 m hm hn)⟩
theorem Fr.set {n : Nat} {l : Loc} {x : Obj} : Fr n l (l.set n x) := ⟨by simp, fun m _ hn => by rw [List.getElem?_set_ne (Ne.symm hn)]⟩
theorem Fr.app {n : Nat} {l r : Loc} : Fr n l (l ++ r) := ⟨by simp, fun m hm _ => by rw [List.getElem?_append_left hm]⟩
theorem Fr.app2 {n : Nat} {a b r : Loc} (h : Fr n a b) : Fr n a (b ++ r) := h.trans Fr.app
/-- a new object is changed -/
theorem Fr.put {n m : Nat} {a b : Loc} {x : Obj} (h : Fr n a b) (hm : a.length ≤ m) : Fr n a (b.set m x) := ⟨by simpa using h.1, fun i hi hn => by
  rw [List.getElem?_set_ne (by omega)]
  exact h.2 i hi hn⟩
structure VG (n : Nat) (l l' : Loc) : Prop where
  vs : VS l' n
  fr : Fr n l l'
theorem VG.trans {n : Nat} {a b c : Loc} (h : VG n a b) (k : VG n b c) : VG n a c := ⟨k.vs, h.fr.trans k.fr⟩
theorem VG.refl {n : Nat} {l : Loc} (h : VS l n) : VG n l l := ⟨h, Fr.refl⟩
theorem VS.lt {n : Nat} {l : Loc} (h : VS l n) : n < l.length := by
  obtain ⟨a, b, c, _, _, _, hl⟩ := h
  exact (List.getElem?_eq_some_iff.mp hl).1
theorem VS.app {n : Nat} {l r : Loc} (h : VS l n) : VS (l ++ r) n := by
  have hn := h.lt
  obtain ⟨a, b, c, h1, h2, h3, hl⟩ := h
  exact ⟨a, b, c, h1, h2, h3, by rw [List.getElem?_append_left hn]; exact hl⟩
theorem VS.set {n m : Nat} {l : Loc} {x : Obj} (h : VS l n) (hm : m ≠ n) : VS (l.set m x) n := by
  obtain ⟨a, b, c, h1, h2, h3, hl⟩ := h
  exact ⟨a, b, c, h1, h2, h3, by rw [List.getElem?_set_ne hm]; exact hl⟩
theorem at0 {α : Type} (a b c : α) : atD [a, b, c] 0 = some a := rfl
theorem at1 {α : Type} (a b c : α) : atD [a, b, c] 1 = some b := rfl
theorem at2 {α : Type} (a b c : α) : atD [a, b, c] 2 = some c := rfl
theorem ix0 : ixn 3 0 = some 0 := rfl
theorem ix2 : ixn 3 2 = some 2 := rfl
theorem atn {α : Type} {xs : List α} {i : Int} (h0 : 0 ≤ i) (h : i < xs.length) : ∃ x, atD xs i = some x ∧ x ∈ xs := by
  have hj : i.toNat < xs.length := by omega
  refine ⟨xs[i.toNat], ?_, List.getElem_mem _⟩
  show (ixN xs.length i).bind _ = _
  unfold ixN
  rw [if_pos h0, if_pos h]
  exact List.getElem?_eq_getElem hj
theorem digit {k n : Nat} {l : Loc} {base : Int} (hk : 1 ≤ k) (h : VS l n) (hb : 0 < base) (hb2 : base < 1073741824) : ∃ d l', cl k f_law_digit [.r n, .d (.int base)] l = .ok (.d (.int d)) l' ∧ 0 ≤ d ∧ d < base ∧ VG n l l' := by
  obtain ⟨k, rfl⟩ := pos_of hk
  obtain ⟨a, b, c, ha, hc, hc2, hl⟩ := h
  have hn : n < l.length := (List.getElem?_eq_some_iff.mp hl).1
  rw [cl_eq (df := d_law_digit) rfl rfl]
  by_cases h1 : b = 0 ∧ 0 < a
  · refine ⟨a % base, l.set n (.lst [.d (.int (a / base)), .d (.int b), .d (.int c)]), ?_, Int.emod_nonneg _ (by omega), Int.emod_lt_of_pos _ hb, ⟨a / base, b, c, Int.ediv_nonneg ha (by omega), hc, hc2, by simp [hn]⟩, Fr.set⟩
    obtain ⟨rfl, h1⟩ := h1
    simp [d_law_digit, evSs, evS, evE, evT, evL, evO, evC, Res.bind_ok, Res.bind_exc, Res.bind_bad, Res.out_ok, Res.out_exc, Res.out_bad, Out.thn_nx, Out.thn_rt, Out.thn_exc, Out.thn_bk, Out.thn_ct, ret_some, ret_none, idxW, op2W, pk, pkL, op2, eqO, okD, okL, eqD, eqL, cmpI, trW, trD, asgT, setMany, modD, fdivD, mulD, addD, subD, retO, setIW, Out.res, biD, isTy, smD, smW, rcv, unW, mk1, mk2, mk3, mk4, mk5, mt1, mt2, mt3, mt4, asgI, walked, stays_no, List.map_map, Function.comp_def, padN_zero, fnCall_f, startE, isO, isNone, inO, inW, anyD, slD, itms, small62, wipeE, noExc, unStr, frzW, appW, CF_fn, CF_sub, startE, hl, at0, at1, at2, h1, hb, hb2, ix0]
  · have hm := Int.emod_nonneg (c * (c / 1009 + 69621) + a % 2147483587) (show (2147483629 : Int) ≠ 0 by omega)
    have hm2 := Int.emod_lt_of_pos (c * (c / 1009 + 69621) + a % 2147483587) (show (0 : Int) < 2147483629 by omega)
    refine ⟨((c * (c / 1009 + 69621) + a % 2147483587) % 2147483629 + 7) / 97 % base, l.set n (.lst [.d (.int a), .d (.int b), .d (.int ((c * (c / 1009 + 69621) + a % 2147483587) % 2147483629 + 7))]), ?_, Int.emod_nonneg _ (by omega), Int.emod_lt_of_pos _ hb, ⟨a, b, (c * (c / 1009 + 69621) + a % 2147483587) % 2147483629 + 7, ha, by omega, by omega, by simp [hn]⟩, Fr.set⟩
    have hcc : -18446744073709551616 < c ∧ c < 18446744073709551616 := by omega
    have hset : ∀ x, (l.set n x)[n]? = some x := fun x => by simp [hn]
    by_cases hb0 : b = 0
    · have ha0 : ¬ 0 < a := fun z => h1 ⟨hb0, z⟩
      subst hb0
      simp [d_law_digit, evSs, evS, evE, evT, evL, evO, evC, Res.bind_ok, Res.bind_exc, Res.bind_bad, Res.out_ok, Res.out_exc, Res.out_bad, Out.thn_nx, Out.thn_rt, Out.thn_exc, Out.thn_bk, Out.thn_ct, ret_some, ret_none, idxW, op2W, pk, pkL, op2, eqO, okD, okL, eqD, eqL, cmpI, trW, trD, asgT, setMany, modD, fdivD, mulD, addD, subD, retO, setIW, Out.res, biD, isTy, smD, smW, rcv, unW, mk1, mk2, mk3, mk4, mk5, mt1, mt2, mt3, mt4, asgI, walked, stays_no, List.map_map, Function.comp_def, padN_zero, fnCall_f, startE, isO, isNone, inO, inW, anyD, slD, itms, small62, wipeE, noExc, unStr, frzW, appW, CF_fn, CF_sub, startE, hl, at0, at1, at2, ha0, hb, hb2, ix0, ix2, hcc, hset]
    · have hb1 : (b == 0) = false := by simp [hb0]
      simp [d_law_digit, evSs, evS, evE, evT, evL, evO, evC, Res.bind_ok, Res.bind_exc, Res.bind_bad, Res.out_ok, Res.out_exc, Res.out_bad, Out.thn_nx, Out.thn_rt, Out.thn_exc, Out.thn_bk, Out.thn_ct, ret_some, ret_none, idxW, op2W, pk, pkL, op2, eqO, okD, okL, eqD, eqL, cmpI, trW, trD, asgT, setMany, modD, fdivD, mulD, addD, subD, retO, setIW, Out.res, biD, isTy, smD, smW, rcv, unW, mk1, mk2, mk3, mk4, mk5, mt1, mt2, mt3, mt4, asgI, walked, stays_no, List.map_map, Function.comp_def, padN_zero, fnCall_f, startE, isO, isNone, inO, inW, anyD, slD, itms, small62, wipeE, noExc, unStr, frzW, appW, CF_fn, CF_sub, startE, hl, at0, at1, at2, hb1, hb, hb2, ix0, ix2, hcc, hset]
/-- a new state -/
theorem state {k : Nat} {l : Loc} {i : Int} (hk : 1 ≤ k) : ∃ l', cl k f_law_state [.d (.int i)] l = .ok (.r l.length) l' ∧ VS l' l.length ∧ l <+: l' := by
  obtain ⟨k, rfl⟩ := pos_of hk
  rw [cl_eq (df := d_law_state) rfl rfl]
  have h1 := Int.emod_nonneg (if i < 0 then -i else i) (show (2147483629 : Int) ≠ 0 by omega)
  have h2 := Int.emod_lt_of_pos (if i < 0 then -i else i) (show (0 : Int) < 2147483629 by omega)
  refine ⟨l ++ [.lst [.d (.int ((if i < 0 then -i else i) / 2)), .d (.int ((if i < 0 then -i else i) % 2)), .d (.int ((if i < 0 then -i else i) % 2147483629 + 7))]], ?_, ⟨_, _, _, ?_, ?_, ?_, by simp; exact ⟨rfl, rfl, rfl⟩⟩, List.prefix_append _ _⟩
  · simp [d_law_state, evSs, evS, evE, evT, evL, evO, evC, Res.bind_ok, Res.bind_exc, Res.bind_bad, Res.out_ok, Res.out_exc, Res.out_bad, Out.thn_nx, Out.thn_rt, Out.thn_exc, Out.thn_bk, Out.thn_ct, ret_some, ret_none, idxW, op2W, pk, pkL, op2, eqO, okD, okL, eqD, eqL, cmpI, trW, trD, asgT, setMany, modD, fdivD, mulD, addD, subD, retO, setIW, Out.res, biD, isTy, smD, smW, rcv, unW, mk1, mk2, mk3, mk4, mk5, mt1, mt2, mt3, mt4, asgI, walked, stays_no, List.map_map, Function.comp_def, padN_zero, fnCall_f, startE, isO, isNone, inO, inW, anyD, slD, itms, small62, wipeE, noExc, unStr, frzW, appW, CF_fn, CF_sub, mkLst]
  · split <;> omega
  · omega
  · omega
/-! comprehensions -/
section
variable {ee : Env → Loc → Res W} {ec : Env → Loc → Res Bool} {i : Nat} {ρ : Env}
theorem lc_gen {α : Type} {f : α → D} {R : Tx → Prop} {P : Loc → Prop} (h : ∀ d l, P l → ∃ s l', ee (ρ.set i (some (.d d))) l = .ok (.d (.str s)) l' ∧ R s ∧ P l') (hc : ∀ ρ l, ec ρ l = .ok true l) :
    ∀ (xs : List α) (l : Loc), P l → ∃ (ss : List Tx) (l' : Loc), lcGo (fun _ => True) ec ee (.n i) (xs.map fun x => Itm.one (.d (f x))) ρ l = .ok (ss.map fun s => W.d (.str s)) l' ∧ (∀ s ∈ ss, R s) ∧ ss.length = xs.length ∧ P l'
  | [], l, hp => ⟨[], l, by simp [lcGo], by simp, rfl, hp⟩
  | d :: ds, l, hp => by
    obtain ⟨s, l1, e1, r1, p1⟩ := h (f d) l hp
    obtain ⟨ss, l2, e2, r2, n2, p2⟩ := lc_gen (f := f) h hc ds l1 p1
    refine ⟨s :: ss, l2, ?_, fun x hx => ?_, by simp [n2], p2⟩
    · rw [List.map_cons]
      unfold lcGo
      rw [if_pos trivial]
      simp only [asgI, asgT, ret_some, Res.bind_ok, hc, e1, e2, List.map_cons]
    · rcases List.mem_cons.mp hx with rfl | hx
      · exact r1
      · exact r2 x hx
theorem lc_map {α : Type} {f g : α → D} {l : Loc} : ∀ {xs : List α}, (∀ x ∈ xs, ec (ρ.set i (some (.d (f x)))) l = .ok true l ∧ ee (ρ.set i (some (.d (f x)))) l = .ok (.d (g x)) l) → lcGo (fun _ => True) ec ee (.n i) (xs.map fun x => Itm.one (.d (f x))) ρ l = .ok (xs.map fun x => W.d (g x)) l
  | [], _ => by simp [lcGo]
  | d :: ds, h => by
    obtain ⟨h1, h2⟩ := h d List.mem_cons_self
    rw [List.map_cons]
    unfold lcGo
    rw [if_pos trivial]
    simp only [asgI, asgT, ret_some, Res.bind_ok, h1, h2, lc_map fun d hd => h d (List.mem_cons_of_mem _ hd), List.map_cons]
theorem lc_filter {α : Type} {f g : α → D} {t : α → Bool} {l : Loc} : ∀ {xs : List α}, (∀ x ∈ xs, ec (ρ.set i (some (.d (f x)))) l = .ok (t x) l ∧ ee (ρ.set i (some (.d (f x)))) l = .ok (.d (g x)) l) → lcGo (fun _ => True) ec ee (.n i) (xs.map fun x => Itm.one (.d (f x))) ρ l = .ok ((xs.filter t).map fun x => W.d (g x)) l
  | [], _ => by simp [lcGo]
  | d :: ds, h => by
    obtain ⟨h1, h2⟩ := h d List.mem_cons_self
    rw [List.map_cons]
    unfold lcGo
    rw [List.filter_cons, if_pos trivial]
    simp only [asgI, asgT, ret_some, Res.bind_ok, h1, h2, lc_filter fun d hd => h d (List.mem_cons_of_mem _ hd)]
    cases t d <;> simp

end
theorem unW_map {α : Type} (f : α → D) : ∀ (xs : List α), unW (xs.map fun x => W.d (f x)) = some (xs.map f)
  | [] => rfl
  | x :: xs => by
    show (unW (xs.map fun x => W.d (f x))).map (f x :: ·) = _
    rw [unW_map f xs]; rfl
theorem unStr_mapf {α : Type} (f : α → Tx) : ∀ (xs : List α), unStr (xs.map fun x => D.str (f x)) = some (xs.map f)
  | [] => rfl
  | x :: xs => by
    show (unStr (xs.map fun x => D.str (f x))).map (f x :: ·) = _
    rw [unStr_mapf f xs]; rfl
theorem join_nil : ∀ (xs : List Tx), TL.joinL [] xs = xs.flatten
  | [] => rfl
  | [p] => by simp [TL.joinL]
  | p :: q :: r => by
    show p ++ ([] ++ TL.joinL [] (q :: r)) = _
    rw [join_nil (q :: r)]; simp
theorem sum_le {m : Nat} : ∀ {xs : List Tx}, (∀ x ∈ xs, x.length ≤ m) → (xs.map List.length).sum ≤ xs.length * m
  | [], _ => by simp
  | x :: xs, h => by
    have h1 := h x List.mem_cons_self
    have h2 := sum_le (m := m) (xs := xs) fun y hy => h y (List.mem_cons_of_mem _ hy)
    simp only [List.map_cons, List.sum_cons, List.length_cons, Nat.add_mul]
    omega
theorem joinL_len {s : Tx} {m : Nat} : ∀ {xs : List Tx}, (∀ x ∈ xs, x.length ≤ m) → (TL.joinL s xs).length ≤ xs.length * (m + s.length)
  | [], _ => by simp [TL.joinL]
  | [p], h => by
    have h1 := h p List.mem_cons_self
    show p.length ≤ 1 * _
    omega
  | p :: q :: r, h => by
    have h1 := h p List.mem_cons_self
    have h2 := joinL_len (s := s) (m := m) (xs := q :: r) fun y hy => h y (List.mem_cons_of_mem _ hy)
    show (p ++ (s ++ TL.joinL s (q :: r))).length ≤ (r.length + 1 + 1) * _
    have e : (r.length + 1 + 1) * (m + s.length) = (r.length + 1) * (m + s.length) + (m + s.length) := by rw [Nat.add_mul (r.length + 1), Nat.one_mul]
    rw [e]
    simp only [List.length_append, List.length_cons] at h2 ⊢
    omega
theorem joinL_all {s : Tx} {P : Nat → Prop} (hs : ∀ c ∈ s, P c) : ∀ {xs : List Tx}, (∀ x ∈ xs, ∀ c ∈ x, P c) → ∀ c ∈ TL.joinL s xs, P c
  | [], _, c, hc => by cases hc
  | [p], h, c, hc => h p List.mem_cons_self c hc
  | p :: q :: r, h, c, hc => by
    have hc' : c ∈ p ++ (s ++ TL.joinL s (q :: r)) := hc
    rcases List.mem_append.mp hc' with hc | hc
    · exact h p List.mem_cons_self c hc
    · rcases List.mem_append.mp hc with hc | hc
      · exact hs c hc
      · exact joinL_all hs (fun y hy => h y (List.mem_cons_of_mem _ hy)) c hc
abbrev A62 : Tx := [97, 98, 99, 100, 101, 102, 103, 104, 105, 106, 107, 108, 109, 110, 111, 112, 113, 114, 115, 116, 117, 118, 119, 120, 121, 122, 48, 49, 50, 51, 52, 53, 54, 55, 56, 57, 65, 66, 67, 68, 69, 70, 71, 72, 73, 74, 75, 76, 77, 78, 79, 80, 81, 82, 83, 84, 85, 86, 87, 88, 89, 90]
def Txt (s : Tx) : Prop := ∀ c ∈ s, c < 128
theorem a62_lt : ∀ c ∈ A62, c < 128 := by decide
theorem b3_lt : ∀ c ∈ B3, c < 128 := by decide
theorem flat1 {R : Nat → Prop} : ∀ {ss : List Tx}, (∀ s ∈ ss, ∃ c, s = [c] ∧ R c) → ss.flatten.length = ss.length ∧ ∀ c ∈ ss.flatten, R c
  | [], _ => ⟨rfl, by simp⟩
  | s :: ss, h => by
    obtain ⟨c, rfl, hc⟩ := h s List.mem_cons_self
    obtain ⟨i1, i2⟩ := flat1 fun x hx => h x (List.mem_cons_of_mem _ hx)
    refine ⟨by simp [i1], fun x hx => ?_⟩
    rw [List.flatten_cons] at hx
    rcases List.mem_append.mp hx with hx | hx
    · rw [List.mem_singleton.mp hx]; exact hc
    · exact i2 x hx
theorem sum1 : ∀ {ss : List Tx} {R : Nat → Prop}, (∀ s ∈ ss, ∃ c, s = [c] ∧ R c) → (ss.map List.length).sum = ss.length
  | [], _, _ => rfl
  | s :: ss, R, h => by
    obtain ⟨c, rfl, hc⟩ := h s List.mem_cons_self
    have := sum1 fun x hx => h x (List.mem_cons_of_mem _ hx)
    simp [this]; omega
theorem mkl {xs : List Tx} {l : Loc} (h1 : xs.length ≤ 16777216) : mkLst false (xs.map fun s => W.d (.str s)) l = .ok (.d (.lst (xs.map fun s => .str s))) l := by
  have e1 := unW_map (fun s => D.str s) xs
  simp [mkLst, h1, e1]
theorem smj {xs : List Tx} {sep : Tx} {l : Loc} (h2 : (xs.map List.length).sum + xs.length * sep.length ≤ 16777216) : smW .join (.d (.str sep)) [.d (.lst (xs.map fun s => .str s))] l = .ok (.d (.str (TL.joinL sep xs))) l := by
  have e2 := unStr_mapf (fun s => s) xs
  simp only [List.map_id'] at e2
  simp [smW, pk, pkL, smD, e2, h2]
theorem smjD {xs : List Tx} {sep : Tx} (h2 : (xs.map List.length).sum + xs.length * sep.length ≤ 16777216) : smD .join (.str sep) [.lst (xs.map fun s => .str s)] = some (.str (TL.joinL sep xs)) := by
  have e2 := unStr_mapf (fun s => s) xs
  simp only [List.map_id'] at e2
  simp [smD, e2, h2]
/-! one turn of a while -/
theorem wh_false {et : Env → Loc → Res Bool} {eb : Env → Loc → Out} {n : Nat} {ρ : Env} {l l1 : Loc} (h : et ρ l = .ok false l1) : whGo et eb (n + 1) ρ l = .nx ρ l1 := by
  show (et ρ l).out ρ _ = _
  rw [h]
  rfl
theorem wh_true {et : Env → Loc → Res Bool} {eb : Env → Loc → Out} {n : Nat} {ρ ρ2 : Env} {l l1 l2 : Loc} (h : et ρ l = .ok true l1) (hb : eb ρ l1 = .nx ρ2 l2) : whGo et eb (n + 1) ρ l = whGo et eb n ρ2 l2 := by
  show (et ρ l).out ρ _ = _
  rw [h]
  simp only [Res.out_ok]
  rw [hb]
end Vx

set_option maxHeartbeats 400000
namespace Vx
open PySem L2
/-! rows joined are split as they were -/
theorem sp1_app {s : Nat} : ∀ (a acc b : Tx), sp1 s acc (a ++ s :: b) = sp1 s acc a ++ sp1 s [] b
  | [], acc, b => by
    show (if s = s then acc :: sp1 s [] b else _) = _
    rw [if_pos rfl]
    rfl
  | c :: a, acc, b => by
    show (if c = s then acc :: sp1 s [] (a ++ s :: b) else sp1 s (acc ++ [c]) (a ++ s :: b)) = (if c = s then acc :: sp1 s [] a else sp1 s (acc ++ [c]) a) ++ _
    split
    · rw [sp1_app a [] b]; rfl
    · rw [sp1_app a (acc ++ [c]) b]
theorem sp1_one {s : Nat} {r : Tx} (h : ∀ c ∈ r, c ≠ s) : sp1 s [] r = [r] := by
  have := sp1_free (s := s) (g := r) (acc := []) (r := []) h
  rw [List.append_nil, List.nil_append] at this
  rw [this]
  rfl
theorem sp1_joins {s : Nat} : ∀ {ys : List Tx}, ys ≠ [] → sp1 s [] (TL.joinL [s] ys) = (ys.map (sp1 s [])).flatten
  | [], h => absurd rfl h
  | [p], _ => by simp [TL.joinL]
  | p :: q :: r, _ => by
    show sp1 s [] (p ++ s :: TL.joinL [s] (q :: r)) = _
    rw [sp1_app, sp1_joins (ys := q :: r) (by simp)]
    rfl
theorem sp1_join {s : Nat} {rows : List Tx} (h : ∀ r ∈ rows, ∀ c ∈ r, c ≠ s) (hn : rows ≠ []) : sp1 s [] (TL.joinL [s] rows) = rows := by
  rw [sp1_joins hn]
  have : rows.map (sp1 s []) = rows.map fun r => [r] := List.map_congr_left fun r hr => sp1_one (h r hr)
  rw [this]
  clear this h hn
  induction rows with
  | nil => rfl
  | cons r rows ih => simpa using ih
end Vx

set_option maxHeartbeats 400000
namespace Vx
open PySem L2
theorem small_ {k c : Nat} {l : Loc} (hk : 1 ≤ k) : cl k f_small [.d (.str [c])] l = .ok (.d (smallF c)) l := by
  obtain ⟨k, rfl⟩ := pos_of hk
  rw [cl_eq (df := d_small) rfl rfl]
  by_cases h1 : c ∈ P36
  · have e : smallF c = .str [c] := by unfold smallF nc; rw [if_pos h1]
    rw [e]
    have h1' : decide (c ∈ P36) = true := by simpa using h1
    simp only [CF_fn, d_small, evSs, evS, evE, evT, startE, List.map, List.length, List.replicate, List.append, List.append_nil, Nat.sub_self, Res.bind_ok, Res.out_ok, op2W, pk, op2, inO, inW, Option.bind_some, Option.map_some, ret_some, trW, trD, List.getElem?_cons_zero, h1', Out.thn_nx, Out.thn_rt, Out.res]
  · by_cases h2 : c ∈ G26
    · have e : smallF c = .str [c + 32] := by unfold smallF nc; rw [if_neg h1, if_pos h2]
      rw [e]
      have h1' : decide (c ∈ P36) = false := by simpa using h1
      have h2' : decide (c ∈ G26) = true := by simpa using h2
      have hf : ∀ c ∈ G26, ∃ j : Nat, firstAt [c] 0 G26 = some j ∧ atD P36 (j : Int) = some (c + 32) := by
        have : ∀ c ∈ G26, firstAt [c] 0 G26 = some (c - 65) ∧ atD P36 ((c - 65 : Nat) : Int) = some (c + 32) := by decide
        exact fun c hc => ⟨_, this c hc⟩
      obtain ⟨j, f1, f2⟩ := hf c h2
      have hl : P36.length ≤ 16777216 := by decide
      simp only [CF_fn, d_small, evSs, evS, evE, evT, evL, startE, List.map, List.length, List.replicate, List.append, List.append_nil, Nat.sub_self, Res.bind_ok, Res.out_ok, op2W, pk, op2, inO, inW, Option.bind_some, Option.map_some, ret_some, trW, trD, List.getElem?_cons_zero, h1', h2', Out.thn_nx, Out.thn_rt, Out.res, rcv]
      simp [smW, pk, pkL, smD, f1, idxW, f2]
    · by_cases h3 : c ∈ B3
      · have e : smallF c = .str [95] := by unfold smallF nc; rw [if_neg h1, if_neg h2, if_pos h3]
        rw [e]
        have h1' : decide (c ∈ P36) = false := by simpa using h1
        have h2' : decide (c ∈ G26) = false := by simpa using h2
        have h3' : decide (c ∈ B3) = true := by simpa using h3
        simp only [CF_fn, d_small, evSs, evS, evE, evT, evL, startE, List.map, List.length, List.replicate, List.append, List.append_nil, Nat.sub_self, Res.bind_ok, Res.out_ok, op2W, pk, op2, inO, inW, Option.bind_some, Option.map_some, ret_some, trW, trD, List.getElem?_cons_zero, h1', h2', h3', Out.thn_nx, Out.thn_rt, Out.res, rcv]
      · have e : smallF c = .non := by unfold smallF nc; rw [if_neg h1, if_neg h2, if_neg h3]
        rw [e]
        have h1' : decide (c ∈ P36) = false := by simpa using h1
        have h2' : decide (c ∈ G26) = false := by simpa using h2
        have h3' : decide (c ∈ B3) = false := by simpa using h3
        simp only [CF_fn, d_small, evSs, evS, evE, evT, evL, startE, List.map, List.length, List.replicate, List.append, List.append_nil, Nat.sub_self, Res.bind_ok, Res.out_ok, op2W, pk, op2, inO, inW, Option.bind_some, Option.map_some, ret_some, trW, trD, List.getElem?_cons_zero, h1', h2', h3', Out.thn_nx, Out.thn_rt, Out.res, rcv]
def gsm : D → D
  | .str [c] => smallF c
  | _ => .non
theorem okL_small : ∀ (t : Tx), okL 12 (t.map smallF) = true
  | [] => rfl
  | c :: t => by
    show (okD 12 (smallF c) && okL 12 (t.map smallF)) = true
    rw [okL_small t]
    unfold smallF
    cases nc c <;> rfl
theorem any_small : ∀ (t : Tx), anyD .non (t.map smallF) = (ncs t).isNone
  | [] => rfl
  | c :: t => by
    show (eqD (smallF c) .non || anyD .non (t.map smallF)) = _
    rw [any_small t, ncs_cons]
    unfold smallF
    cases nc c <;> cases ncs t <;> rfl
theorem map_small : ∀ {t u : Tx}, ncs t = some u → t.map smallF = u.map fun x => .str [x]
  | [], u, h => by cases h; rfl
  | c :: t, u, h => by
    rw [ncs_cons] at h
    cases h1 : nc c with
    | none => rw [h1] at h; cases h
    | some x =>
      cases h2 : ncs t with
      | none => rw [h1, h2] at h; cases h
      | some v =>
        rw [h1, h2] at h
        cases h
        rw [List.map_cons, List.map_cons, map_small h2]
        unfold smallF
        rw [h1]
theorem flat_one : ∀ (u : Tx), (u.map fun x => ([x] : Tx)).flatten = u
  | [] => rfl
  | x :: u => by rw [List.map_cons, List.flatten_cons, flat_one u]; rfl
theorem sum_one : ∀ (u : Tx), ((u.map fun x => ([x] : Tx)).map List.length).sum = u.length
  | [] => rfl
  | x :: u => by rw [List.map_cons, List.map_cons, List.sum_cons, sum_one u]; simp; omega
theorem ps_e0 {k : Nat} {t : Tx} {l : Loc} (hk : 1 ≤ k) (a b d : Option W) (c : Nat) : evE (CF k) e_plain_segment_0 [some (.d (.str t)), a, b, some (.d (.str [c])), d] l = .ok (.d (smallF c)) l := by
  simp [e_plain_segment_0, evE, evL, ro_ (small_ hk)]
theorem sp1_mem {s : Nat} : ∀ {l acc w : Tx}, w ∈ sp1 s acc l → w.length ≤ acc.length + l.length ∧ ∀ c ∈ w, c ∈ acc ∨ c ∈ l
  | [], acc, w, h => by
    have : w = acc := by simpa [sp1] using h
    subst this
    exact ⟨by simp, fun c hc => .inl hc⟩
  | x :: l, acc, w, h => by
    unfold sp1 at h
    split at h
    · rcases List.mem_cons.mp h with rfl | h
      · exact ⟨by simp, fun c hc => .inl hc⟩
      · obtain ⟨i1, i2⟩ := sp1_mem h
        refine ⟨by simp only [List.length_cons, List.length_nil] at i1 ⊢; omega, fun c hc => ?_⟩
        rcases i2 c hc with z | z
        · cases z
        · exact .inr (List.mem_cons_of_mem _ z)
    · obtain ⟨i1, i2⟩ := sp1_mem h
      refine ⟨by simp only [List.length_cons, List.length_append, List.length_nil] at i1 ⊢; omega, fun c hc => ?_⟩
      rcases i2 c hc with z | z
      · rcases List.mem_append.mp z with z | z
        · exact .inl z
        · rw [List.mem_singleton.mp z]; exact .inr List.mem_cons_self
      · exact .inr (List.mem_cons_of_mem _ z)
theorem sp1_count {s : Nat} : ∀ {l acc : Tx}, (sp1 s acc l).length ≤ l.length + 1
  | [], acc => by simp [sp1]
  | x :: l, acc => by
    unfold sp1
    split
    · have := sp1_count (s := s) (l := l) (acc := [])
      simp only [List.length_cons]; omega
    · have := sp1_count (s := s) (l := l) (acc := acc ++ [x])
      simp only [List.length_cons]; omega
theorem sms {u : Tx} {s : Nat} {l : Loc} (h : u.length ≤ 100000) (hs : s < 256) : smW .split (.d (.str u)) [.d (.str [s])] l = .ok (.d (.lst ((sp1 s [] u).map .str))) l := by
  have h1 : u.length ≤ 16777214 := by omega
  simp [smW, pk, pkL, smD, spl1, h1, hs]
theorem okL_str : ∀ (xs : List Tx), okL 12 (xs.map .str) = true
  | [] => rfl
  | x :: xs => by
    show (okD 12 (.str x) && okL 12 (xs.map .str)) = true
    rw [okL_str xs]; rfl
theorem okLs (n : Nat) : ∀ (xs : List Tx), okL n (xs.map fun s => D.str s) = true
  | [] => by cases n <;> rfl
  | x :: xs => by
    have h1 : okD n (.str x) = true := by cases n <;> rfl
    show okL n (.str x :: xs.map fun s => D.str s) = true
    unfold okL
    rw [okLs n xs, h1]
    rfl
theorem eq_nil (xs : List Tx) : eqD (.lst (xs.map .str)) (.lst []) = decide (xs = []) := by
  cases xs <;> rfl
theorem mkLst_nil {l : Loc} : mkLst false [] l = .ok (.d (.lst [])) l := rfl
theorem plain_segment {k : Nat} {t : Tx} {l : Loc} (hk : 2 ≤ k) (hl : t.length ≤ 1000) : cl k f_plain_segment [.d (.str t)] l = .ok (.d (segD t)) l := by
  obtain ⟨k, rfl⟩ := pos_of (show 1 ≤ k by omega)
  rw [cl_eq (df := d_plain_segment) rfl rfl]
  have e0 : lcGo (fun _ => True) (evC (CF k) .nil) (evE (CF k) e_plain_segment_0) (.n 3) (t.map fun c => Itm.one (.d (.str [c]))) [some (.d (.str t)), none, none, none, none] l = .ok (t.map fun c => W.d (smallF c)) l :=
    lc_map (f := fun c => .str [c]) (g := smallF) fun c _ => ⟨rfl, ps_e0 (by omega) none none none c⟩
  have e1 : unW (t.map fun c => W.d (smallF c)) = some (t.map smallF) := unW_map smallF t
  have hz : t.length ≤ 16777216 := by omega
  cases hn : ncs t with
  | none =>
    have e : segD t = .non := by unfold segD; rw [hn]
    rw [e]
    have ha := any_small t
    rw [hn] at ha
    simp [d_plain_segment, evSs, evS, evE, evL, evT, startE, asgT, itms, walked, stays_no, List.map_map, Function.comp_def, wipeE, e0, noExc, mkLst, e1, hz, op2W, pk, op2, inO, inW, okD, okL_small, ha, trW, trD, Out.res]
  | some u =>
    have ha := any_small t
    rw [hn] at ha
    have hm := map_small hn
    have hul := (ncs_ok hn).2
    have hj := smj (xs := u.map fun x => ([x] : Tx)) (sep := []) (l := l) (by rw [sum_one]; simp; omega)
    rw [join_nil, flat_one, List.map_map] at hj
    have hj2 : smW .join (.d (.str [])) [.d (.lst (u.map fun x => .str [x]))] l = .ok (.d (.str u)) l := hj
    have hsp := sms (u := u) (s := 95) (l := l) (by omega) (by omega)
    have e2 : lcGo (fun _ => True) (evC (CF k) c_plain_segment_0) (evE (CF k) e_plain_segment_1) (.n 4) ((sp1 95 [] u).map fun w => Itm.one (.d (.str w))) [some (.d (.str t)), some (.d (.lst (t.map smallF))), none, none, none] l = .ok (((sp1 95 [] u).filter fun w => decide (w ≠ [])).map fun w => W.d (.str w)) l :=
      lc_filter (f := fun w => .str w) (g := fun w => .str w) fun w _ => by
        refine ⟨?_, rfl⟩
        simp [c_plain_segment_0, evC, evT, evE, op2W, pk, op2, eqO, okD, trW, trD]
        cases w <;> rfl
    have hwl : ((sp1 95 [] u).filter fun w => decide (w ≠ [])).length ≤ 1001 := Nat.le_trans (List.length_filter_le _ _) (Nat.le_trans sp1_count (by omega))
    have hws : ∀ w ∈ (sp1 95 [] u).filter fun w => decide (w ≠ []), w.length ≤ 1000 := fun w hw => by
      have := (sp1_mem (List.mem_filter.mp hw).1).1
      simp only [List.length_nil] at this
      omega
    have hfold := fold_eq u
    generalize hW : (sp1 95 [] u).filter (fun w => decide (w ≠ [])) = ws at *
    have hwm := mkl (xs := ws) (l := l) (by omega)
    have hsum := sum_le hws
    have hj3 := smj (xs := ws) (sep := [95]) (l := l) (by simp; omega)
    have hnn : ∀ w ∈ ws, w ≠ [] := fun w hw => by
      rw [← hW] at hw
      simpa using (List.mem_filter.mp hw).2
    have e : segD t = if ws = [] then .non else .str (TL.joinL [95] ws) := by
      unfold segD
      rw [hn]
      show sgN u = _
      unfold sgN
      rw [hfold]
      have := joinL_nil (s := [95]) hnn
      by_cases hh : ws = []
      · rw [if_pos hh, if_pos (this.mpr hh)]
      · rw [if_neg hh, if_neg fun z => hh (this.mp z)]
    rw [e]
    have hok := okL_str ws
    have hen := eq_nil ws
    have mk0 : mkLst false (t.map fun c => W.d (smallF c)) l = .ok (.d (.lst (t.map smallF))) l := by simp [mkLst, hz, e1]
    have hj4 : smW .join (.d (.str [])) [.d (.lst (t.map smallF))] l = .ok (.d (.str u)) l := by rw [hm]; exact hj2
    by_cases hh : ws = []
    · rw [if_pos hh]
      rw [hh] at hen
      subst hh
      simp only [List.map_nil] at e2 hwm hen
      simp [d_plain_segment, evSs, evS, evE, evL, evT, startE, asgT, itms, walked, stays_no, List.map_map, Function.comp_def, wipeE, e0, noExc, mkLst, e1, hz, op2W, pk, op2, inO, inW, okD, okL, okL_small, ha, trW, trD, Out.res, rcv, hj4, hsp, e2, unW, eqO, hen]
    · rw [if_neg hh]
      have hen2 : eqD (.lst (ws.map .str)) (.lst []) = false := by rw [hen]; simpa using hh
      simp [d_plain_segment, evSs, evS, evE, evL, evT, startE, asgT, itms, walked, stays_no, List.map_map, Function.comp_def, wipeE, e0, noExc, hwm, mkLst_nil, e1, op2W, pk, op2, inO, inW, okD, okL, okL_small, ha, trW, trD, Out.res, rcv, hj4, hsp, e2, eqO, okLs, hok, hen2, hj3, mk0]
end Vx

set_option maxHeartbeats 400000
namespace Vx
open PySem L2
/-! segments of a text -/
theorem segs_eq (xs : List Tx) : (unStr (xs.map segD) = none ∧ anyD .non (xs.map segD) = true) ∨ ∃ ss, unStr (xs.map segD) = some ss ∧ anyD .non (xs.map segD) = false ∧ xs.map segD = ss.map .str ∧ ss.length = xs.length := by
  induction xs with
  | nil => exact .inr ⟨[], rfl, rfl, rfl, rfl⟩
  | cons x xs ih =>
    have hx : segD x = .non ∨ ∃ s, segD x = .str s := by
      unfold segD
      cases ncs x with
      | none => exact .inl rfl
      | some u =>
        show sgN u = _ ∨ ∃ s, sgN u = _
        unfold sgN
        split
        · exact .inl rfl
        · exact .inr ⟨_, rfl⟩
    rcases hx with hx | ⟨s, hx⟩
    · refine .inl ⟨by rw [List.map_cons, hx]; rfl, by rw [List.map_cons, hx]; rfl⟩
    · rcases ih with ⟨h1, h2⟩ | ⟨ss, h1, h2, h3, h4⟩
      · refine .inl ⟨?_, ?_⟩
        · rw [List.map_cons, hx]
          show (unStr (xs.map segD)).map (s :: ·) = none
          rw [h1]; rfl
        · rw [List.map_cons, hx]
          show (eqD (.str s) .non || anyD .non (xs.map segD)) = true
          rw [h2]; rfl
      · refine .inr ⟨s :: ss, ?_, ?_, by rw [List.map_cons, hx, h3]; rfl, by simp [h4]⟩
        · rw [List.map_cons, hx]
          show (unStr (xs.map segD)).map (s :: ·) = _
          rw [h1]; rfl
        · rw [List.map_cons, hx]
          show (eqD (.str s) .non || anyD .non (xs.map segD)) = false
          rw [h2]; rfl
theorem okL_seg (n : Nat) : ∀ (xs : List Tx), okL n (xs.map segD) = true
  | [] => by cases n <;> rfl
  | x :: xs => by
    have h1 : okD n (segD x) = true := by
      unfold segD
      cases ncs x with
      | none => cases n <;> rfl
      | some u =>
        show okD n (sgN u) = true
        unfold sgN
        split <;> cases n <;> rfl
    show okL n (segD x :: xs.map segD) = true
    unfold okL
    rw [okL_seg n xs, h1]
    rfl
theorem seg_bound {t : Tx} {ss : List Tx} (hl : t.length ≤ 1000) (h : (sp1 47 [] t).map segD = ss.map .str) : ∀ s ∈ ss, s.length ≤ 2000 := fun s hs => by
  have : D.str s ∈ (sp1 47 [] t).map segD := by rw [h]; exact List.mem_map.mpr ⟨s, hs, rfl⟩
  obtain ⟨w, hw, e⟩ := List.mem_map.mp this
  have h1 := (segD_str e).2.2
  have h2 := (sp1_mem hw).1
  simp only [List.length_nil] at h2
  omega
theorem seg_join {t : Tx} {ss : List Tx} {l : Loc} (hl : t.length ≤ 1000) (h : (sp1 47 [] t).map segD = ss.map .str) (hn : ss.length ≤ 1001) : smW .join (.d (.str [47])) [.d (.lst (ss.map fun s => .str s))] l = .ok (.d (.str (TL.joinL [47] ss))) l := by
  have hsum := sum_le (seg_bound hl h)
  refine smj ?_
  simp only [List.length_cons, List.length_nil]
  omega
theorem seg_jlen {t : Tx} {ss : List Tx} (hl : t.length ≤ 1000) (h : (sp1 47 [] t).map segD = ss.map .str) (hn : ss.length ≤ 1001) : (TL.joinL [47] ss).length ≤ 16777216 := by
  have := joinL_len (s := [47]) (seg_bound hl h)
  simp only [List.length_cons, List.length_nil] at this
  omega
def gsg : D → D
  | .str s => segD s
  | _ => .non
theorem ct_e0 {k : Nat} {l : Loc} (hk : 2 ≤ k) {s : Tx} (hl : s.length ≤ 1000) (a b c : Option W) : evE (CF k) e_come_to_0 [a, b, c, some (.d (.str s))] l = .ok (.d (segD s)) l := by
  simp [e_come_to_0, evE, evL, ro_ (plain_segment hk hl)]
theorem unW_seg (xs : List Tx) : unW (xs.map fun s => W.d (segD s)) = some (xs.map segD) := unW_map segD xs
theorem come_to {k : Nat} {t : Tx} {l : Loc} (hk : 3 ≤ k) (hl : t.length ≤ 1000) : cl k f_come_to [.d (.str t)] l = .ok (.d (nameD t)) l := by
  obtain ⟨k, rfl⟩ := pos_of (show 1 ≤ k by omega)
  rw [cl_eq (df := d_come_to) rfl rfl]
  have hsp := sms (u := t) (s := 47) (l := l) (by omega) (by omega)
  have e0 : lcGo (fun _ => True) (evC (CF k) .nil) (evE (CF k) e_come_to_0) (.n 3) ((sp1 47 [] t).map fun s => Itm.one (.d (.str s))) [some (.d (.str t)), none, none, none] l = .ok ((sp1 47 [] t).map fun c => W.d (segD c)) l :=
    lc_map (f := fun s => .str s) (g := segD) fun s hs => by
      have h2 := (sp1_mem hs).1
      simp only [List.length_nil] at h2
      exact ⟨rfl, ct_e0 (by omega) (by omega) (some (.d (.str t))) none none⟩
  have hcnt := sp1_count (s := 47) (l := t) (acc := [])
  have hmk : mkLst false ((sp1 47 [] t).map fun c => W.d (segD c)) l = .ok (.d (.lst ((sp1 47 [] t).map segD))) l := by
    have h1 : (sp1 47 [] t).length ≤ 16777216 := by omega
    simp [mkLst, h1, unW_seg]
  have hok := okL_seg
  unfold nameD joinO
  rcases segs_eq (sp1 47 [] t) with ⟨h1, h2⟩ | ⟨ss, h1, h2, h3, h4⟩
  · rw [h1]
    simp [d_come_to, evSs, evS, evE, evL, evT, startE, asgT, itms, walked, stays_no, List.map_map, Function.comp_def, wipeE, e0, noExc, hmk, op2W, pk, op2, inO, inW, okD, hok, h2, trW, trD, Out.res, rcv, hsp, biD, isTy]
  · rw [h1]
    dsimp only
    have hj := seg_join (l := l) hl h3 (by omega)
    have hjl := seg_jlen hl h3 (by omega)
    have hok2 := okLs
    rw [h3] at hmk h2
    by_cases c1 : 4 < ss.length
    · rw [if_pos (.inl c1)]
      have c1' : (4 : Int) < (ss.length : Int) := by omega
      simp [d_come_to, evSs, evS, evE, evL, evT, startE, asgT, itms, walked, stays_no, List.map_map, Function.comp_def, wipeE, e0, noExc, hmk, op2W, pk, op2, inO, inW, okD, hok2, h2, trW, trD, Out.res, rcv, hsp, biD, isTy, cmpI, c1']
    · have c1' : ¬ (4 : Int) < (ss.length : Int) := by omega
      by_cases c2 : 24 < (TL.joinL [47] ss).length
      · rw [if_pos (.inr c2)]
        have c2' : (24 : Int) < ((TL.joinL [47] ss).length : Int) := by omega
        simp [d_come_to, evSs, evS, evE, evL, evT, startE, asgT, itms, walked, stays_no, List.map_map, Function.comp_def, wipeE, e0, noExc, hmk, op2W, pk, op2, inO, inW, okD, hok2, h2, trW, trD, Out.res, rcv, hsp, biD, isTy, cmpI, c1', c2', hj, hjl]
      · have c2' : ¬ (24 : Int) < ((TL.joinL [47] ss).length : Int) := by omega
        rw [if_neg (fun z => z.elim c1 c2)]
        simp [d_come_to, evSs, evS, evE, evL, evT, startE, asgT, itms, walked, stays_no, List.map_map, Function.comp_def, wipeE, e0, noExc, hmk, op2W, pk, op2, inO, inW, okD, hok2, h2, trW, trD, Out.res, rcv, hsp, biD, isTy, cmpI, c1', c2', hj, hjl]
theorem name_cases (t : Tx) : nameD t = .non ∨ ∃ d, nameD t = .str d ∧ d.length ≤ 24 ∧ ∀ c ∈ d, okC1 c := by
  unfold nameD joinO
  rcases segs_eq (sp1 47 [] t) with ⟨h1, h2⟩ | ⟨ss, h1, h2, h3, h4⟩
  · rw [h1]; exact .inl rfl
  · rw [h1]
    dsimp only
    split
    · exact .inl rfl
    · rename_i hc
      refine .inr ⟨_, rfl, by omega, okC1_of fun s hs => ?_⟩
      have : D.str s ∈ (sp1 47 [] t).map segD := by rw [h3]; exact List.mem_map.mpr ⟨s, hs, rfl⟩
      obtain ⟨w, _, e⟩ := List.mem_map.mp this
      exact (segD_str e).1
theorem name_none {k : Nat} {t : Tx} {l : Loc} (hk : 4 ≤ k) (hl : t.length ≤ 1000) (h : nameD t = .non) : cl k f_name_of [.d (.str t)] l = .exc 1 .non l := by
  obtain ⟨k, rfl⟩ := pos_of (show 1 ≤ k by omega)
  rw [cl_eq (df := d_name_of) rfl rfl]
  have := ro_ (come_to (k := k) (t := t) (l := l) (by omega) hl)
  rw [h] at this
  simp [d_name_of, evSs, evS, evE, evT, evL, startE, asgT, this, op2W, isO, isNone, trW, pk, trD, Out.res]
theorem name_some {k : Nat} {t d : Tx} {l : Loc} (hk : 4 ≤ k) (hl : t.length ≤ 1000) (h : nameD t = .str d) : cl k f_name_of [.d (.str t)] l = .ok (.d (.str d)) l := by
  obtain ⟨k, rfl⟩ := pos_of (show 1 ≤ k by omega)
  rw [cl_eq (df := d_name_of) rfl rfl]
  have := ro_ (come_to (k := k) (t := t) (l := l) (by omega) hl)
  rw [h] at this
  simp [d_name_of, evSs, evS, evE, evT, evL, startE, asgT, this, op2W, isO, isNone, trW, pk, trD, Out.res]
end Vx

set_option maxHeartbeats 400000
namespace Vx
open PySem L2
/-! parts' names, heads -/
def partD (t : Tx) : D := match segD t with
  | .str s => if 12 < s.length then .non else .str s
  | d => d
theorem segD_cases (t : Tx) : segD t = .non ∨ ∃ s, segD t = .str s := by
  unfold segD
  cases ncs t with
  | none => exact .inl rfl
  | some u =>
    show sgN u = _ ∨ ∃ s, sgN u = _
    unfold sgN
    split
    · exact .inl rfl
    · exact .inr ⟨_, rfl⟩
theorem partD_cases (t : Tx) : partD t = .non ∨ ∃ s, partD t = .str s ∧ segD t = .str s ∧ s.length ≤ 12 := by
  unfold partD
  rcases segD_cases t with h | ⟨s, h⟩
  · rw [h]; exact .inl rfl
  · rw [h]
    dsimp only
    split
    · exact .inl rfl
    · exact .inr ⟨s, rfl, rfl, by omega⟩
theorem come_to_part {k : Nat} {t : Tx} {l : Loc} (hk : 3 ≤ k) (hl : t.length ≤ 1000) : cl k f_come_to_part [.d (.str t)] l = .ok (.d (partD t)) l := by
  obtain ⟨k, rfl⟩ := pos_of (show 1 ≤ k by omega)
  rw [cl_eq (df := d_come_to_part) rfl rfl]
  have e := ro_ (plain_segment (k := k) (t := t) (l := l) (by omega) hl)
  unfold partD
  rcases segD_cases t with h | ⟨s, h⟩
  · rw [h] at e ⊢
    simp [d_come_to_part, evSs, evS, evE, evL, evT, startE, asgT, biD, isTy, pk, trW, trD, e, op2W, isO, isNone, Out.res]
  · rw [h] at e ⊢
    have hs := (segD_str h).2.2
    have hz : s.length ≤ 16777216 := by omega
    by_cases c : 12 < s.length
    · have c' : (12 : Int) < (s.length : Int) := by omega
      simp [d_come_to_part, evSs, evS, evE, evL, evT, startE, asgT, biD, isTy, pk, trW, trD, e, op2W, isO, isNone, Out.res, op2, cmpI, hz, c, c']
    · have c' : ¬ (12 : Int) < (s.length : Int) := by omega
      simp [d_come_to_part, evSs, evS, evE, evL, evT, startE, asgT, biD, isTy, pk, trW, trD, e, op2W, isO, isNone, Out.res, op2, cmpI, hz, c, c']
theorem part_none {k : Nat} {t : Tx} {l : Loc} (hk : 4 ≤ k) (hl : t.length ≤ 1000) (h : partD t = .non) : cl k f_part_of [.d (.str t)] l = .exc 1 .non l := by
  obtain ⟨k, rfl⟩ := pos_of (show 1 ≤ k by omega)
  rw [cl_eq (df := d_part_of) rfl rfl]
  have := ro_ (come_to_part (k := k) (t := t) (l := l) (by omega) hl)
  rw [h] at this
  simp [d_part_of, evSs, evS, evE, evT, evL, startE, asgT, this, op2W, isO, isNone, trW, pk, trD, Out.res]
theorem part_some {k : Nat} {t d : Tx} {l : Loc} (hk : 4 ≤ k) (hl : t.length ≤ 1000) (h : partD t = .str d) : cl k f_part_of [.d (.str t)] l = .ok (.d (.str d)) l := by
  obtain ⟨k, rfl⟩ := pos_of (show 1 ≤ k by omega)
  rw [cl_eq (df := d_part_of) rfl rfl]
  have := ro_ (come_to_part (k := k) (t := t) (l := l) (by omega) hl)
  rw [h] at this
  simp [d_part_of, evSs, evS, evE, evT, evL, startE, asgT, this, op2W, isO, isNone, trW, pk, trD, Out.res]
/-- of a thing that is no text -/
theorem part_other {k : Nat} {d : D} {l : Loc} (hk : 4 ≤ k) (h : isTy .str d = some false) : cl k f_part_of [.d d] l = .exc 1 .non l := by
  obtain ⟨k, rfl⟩ := pos_of (show 1 ≤ k by omega)
  rw [cl_eq (df := d_part_of) rfl rfl]
  have e0 : cl k f_come_to_part [.d d] l = .ok (.d .non) l := by
    obtain ⟨k, rfl⟩ := pos_of (show 1 ≤ k by omega)
    rw [cl_eq (df := d_come_to_part) rfl rfl]
    simp [d_come_to_part, evSs, evS, evE, evL, evT, startE, biD, h, pk, trW, trD, Out.res]
  have := ro_ e0
  simp [d_part_of, evSs, evS, evE, evT, evL, startE, asgT, this, op2W, isO, isNone, trW, pk, trD, Out.res]
/-! slices -/
theorem cut_to {α : Type} (xs : List α) (n : Nat) : cut xs none (some (n : Int)) = xs.take n := by
  unfold cut
  rw [HT.sIx_none, HT.sIx_nat, List.drop_zero, Nat.sub_zero]
  rw [List.take_eq_take_iff]
  omega
theorem cut_from {α : Type} (xs : List α) (n : Nat) : cut xs (some (n : Int)) none = xs.drop n := by
  unfold cut
  rw [HT.sIx_none, HT.sIx_nat]
  by_cases h : n ≤ xs.length
  · rw [Nat.min_eq_left h, List.take_of_length_le (by simp)]
  · rw [Nat.min_eq_right (show xs.length ≤ n by omega), List.drop_length, List.drop_eq_nil_of_le (show xs.length ≤ n by omega), List.take_nil]
theorem cut_amid {α : Type} (xs : List α) (n m : Nat) : cut xs (some (n : Int)) (some (m : Int)) = (xs.take m).drop n := by
  unfold cut
  rw [HT.sIx_nat, HT.sIx_nat, List.drop_take]
  by_cases h : n ≤ xs.length
  · rw [Nat.min_eq_left h, List.take_eq_take_iff]
    simp only [List.length_drop]
    omega
  · rw [Nat.min_eq_right (show xs.length ≤ n by omega), List.drop_length, List.drop_eq_nil_of_le (show xs.length ≤ n by omega), List.take_nil, List.take_nil]
theorem cut_back {α : Type} (xs : List α) (n : Nat) (hn : 1 ≤ n) : cut xs (some (-(n : Int))) none = xs.drop (xs.length - n) := by
  unfold cut HT.sIx
  dsimp only
  rw [if_pos (by omega)]
  have e : (-(n : Int) + (xs.length : Int)).toNat = xs.length - n := by omega
  rw [e, List.take_of_length_le (by simp)]
theorem cut_mid {α : Type} (xs : List α) (n m : Nat) (hm : 1 ≤ m) : cut xs (some (n : Int)) (some (-(m : Int))) = (xs.take (xs.length - m)).drop n := by
  have e : cut xs (some (n : Int)) (some (-(m : Int))) = cut xs (some (n : Int)) (some ((xs.length - m : Nat) : Int)) := by
    unfold cut
    congr 2
    rw [HT.sIx_nat]
    unfold HT.sIx
    dsimp only
    rw [if_pos (by omega)]
    omega
  rw [e, cut_amid]
/-- the part whose head a row is -/
def headD (r : Tx) : D := if r.length < 5 ∨ r.take 2 ≠ [61, 32] ∨ r.drop (r.length - 2) ≠ [32, 61] then .non else partD ((r.take (r.length - 2)).drop 2)
theorem eqd_str (a b : Tx) : eqD (.str a) (.str b) = (a == b) := rfl
end Vx

set_option maxHeartbeats 400000
namespace Vx
open PySem L2
/-! what the law draws -/
theorem gap_e {k n : Nat} (hk : 1 ≤ k) {l : Loc} (hv : VS l n) (d : W) : ∃ s l', evE (CF k) e_law_gap_0 [some (.r n), some d] l = .ok (.d (.str s)) l' ∧ (∃ c, s = [c] ∧ c ∈ B3) ∧ VG n l l' := by
  obtain ⟨x, l1, e, x0, x1, v1⟩ := digit (k := k) (base := 3) hk hv (by omega) (by omega)
  obtain ⟨c, ec, hc⟩ := atn (xs := B3) x0 (by simpa using x1)
  refine ⟨[c], l1, ?_, ⟨c, rfl, hc⟩, v1⟩
  simp [e_law_gap_0, evE, evL, fnCall_f, e, idxW, ec]
theorem gap {k n : Nat} {l : Loc} (hk : 2 ≤ k) (h : VS l n) : ∃ s l', cl k f_law_gap [.r n] l = .ok (.d (.str s)) l' ∧ s ≠ [] ∧ s.length ≤ 2 ∧ (∀ c ∈ s, c ∈ B3) ∧ VG n l l' := by
  obtain ⟨k, rfl⟩ := pos_of (show 1 ≤ k by omega)
  rw [cl_eq (df := d_law_gap) rfl rfl]
  obtain ⟨x, l1, ex, x0, x1, v1⟩ := digit (k := k) (base := 2) (by omega) h (by omega) (by omega)
  have hs : small62 (1 + x) = true := by unfold small62; simp; omega
  obtain ⟨ss, l', e, hss, hlen, hv⟩ := lc_gen (f := fun (i : Nat) => .int (i : Int)) (i := 1) (ρ := [some (.r n), none]) (ec := evC (CF k) .nil) (ee := evE (CF k) e_law_gap_0) (P := VG n l) (R := fun s => ∃ c, s = [c] ∧ c ∈ B3) (fun d l2 hv => by
    obtain ⟨s, l3, e3, r3, v3⟩ := gap_e (k := k) (by omega) hv.vs (.d d)
    exact ⟨s, l3, e3, r3, hv.trans v3⟩) (fun ρ l => rfl) (List.range (1 + x).toNat) l1 v1
  obtain ⟨f1, f2⟩ := flat1 hss
  have hsum := sum1 hss
  have hlen' : ss.length = (1 + x).toNat := by simpa using hlen
  refine ⟨ss.flatten, l', ?_, fun z => by rw [z] at f1; simp at f1; omega, by omega, f2, hv⟩
  have hm := mkl (xs := ss) (l := l') (by omega)
  have hj := smj (xs := ss) (sep := []) (l := l') (by rw [hsum]; simp; omega)
  rw [join_nil] at hj
  simp [d_law_gap, evSs, evS, evE, evL, startE, fnCall_f, asgT, rcv, itms, walked, stays_no, hs, ex, op2W, pk, op2, addD, noExc, wipeE, e, hm, hj, Out.res]
/-- each sign's own -/
def LR (R : Nat → Tx → Prop) : Tx → List Tx → Prop
  | [], [] => True
  | c :: t, s :: ss => R c s ∧ LR R t ss
  | _, _ => False
theorem lc_each {ee : Env → Loc → Res W} {ec : Env → Loc → Res Bool} {i : Nat} {ρ : Env} {R : Nat → Tx → Prop} {P : Loc → Prop} (h : ∀ c l, P l → c < 128 → ∃ s l', ee (ρ.set i (some (.d (.str [c])))) l = .ok (.d (.str s)) l' ∧ R c s ∧ P l') (hc : ∀ ρ l, ec ρ l = .ok true l) :
    ∀ (t : Tx) (l : Loc), P l → (∀ c ∈ t, c < 128) → ∃ (ss : List Tx) (l' : Loc), lcGo (fun _ => True) ec ee (.n i) (t.map fun c => Itm.one (.d (.str [c]))) ρ l = .ok (ss.map fun s => W.d (.str s)) l' ∧ LR R t ss ∧ P l'
  | [], l, hp, _ => ⟨[], l, by simp [lcGo], trivial, hp⟩
  | c :: t, l, hp, ht => by
    obtain ⟨s, l1, e1, r1, p1⟩ := h c l hp (ht c List.mem_cons_self)
    obtain ⟨ss, l2, e2, r2, p2⟩ := lc_each h hc t l1 p1 fun x hx => ht x (List.mem_cons_of_mem _ hx)
    refine ⟨s :: ss, l2, ?_, ⟨r1, r2⟩, p2⟩
    rw [List.map_cons]
    unfold lcGo
    rw [if_pos trivial]
    simp only [asgI, asgT, ret_some, Res.bind_ok, hc, e1, e2, List.map_cons]
def OwR (c : Nat) (s : Tx) : Prop := s.length ≤ 2 ∧ ((c = 95 ∧ s ≠ [] ∧ ∀ x ∈ s, x ∈ B3) ∨ (c ≠ 95 ∧ ∃ x, s = [x] ∧ (x = c ∨ x = uppC c)))
theorem lr_alt : ∀ {t : Tx} {ss : List Tx}, LR OwR t ss → Alt t ss.flatten ∧ (ss.map List.length).sum ≤ 2 * t.length ∧ ss.length = t.length ∧ ss.flatten.length ≤ 2 * t.length
  | [], [], _ => ⟨.nil, by simp, rfl, by simp⟩
  | c :: t, s :: ss, ⟨⟨h0, h1⟩, h2⟩ => by
    obtain ⟨a, b, d, f⟩ := lr_alt h2
    refine ⟨?_, by simp only [List.map_cons, List.sum_cons, List.length_cons]; omega, by simp [d], by simp only [List.flatten_cons, List.length_append, List.length_cons]; omega⟩
    rw [List.flatten_cons]
    rcases h1 with ⟨rfl, g0, gb⟩ | ⟨h95, x, rfl, hx⟩
    · exact .us g0 gb a
    · exact .cons h95 hx a
  | [], _ :: _, h => h.elim
  | _ :: _, [], h => h.elim
theorem ow_e {k n : Nat} (hk : 2 ≤ k) {l : Loc} (hv : VS l n) {c : Nat} (hc : c < 128) (a b : Option W) : ∃ s l', evE (CF k) e_law_otherwise_0 [a, some (.r n), b, some (.d (.str [c]))] l = .ok (.d (.str s)) l' ∧ OwR c s ∧ VG n l l' := by
  by_cases h95 : c = 95
  · subst h95
    obtain ⟨s, l1, e, s0, s1, s2, v1⟩ := gap (k := k) hk hv
    refine ⟨s, l1, ?_, ⟨s1, .inl ⟨rfl, s0, s2⟩⟩, v1⟩
    simp [e_law_otherwise_0, evE, evT, evL, op2W, pk, op2, eqO, okD, eqD, trW, trD, fnCall_f, e]
  · obtain ⟨x, l1, ex, x0, x1, v1⟩ := digit (k := k) (base := 2) (by omega) hv (by omega) (by omega)
    have hb : ((c == 95) : Bool) = false := by simpa using h95
    have hu : smD .upper (.str [c]) [] = some (.str [uppC c]) := by simp [smD, hc]
    have : x = 0 ∨ x = 1 := by omega
    rcases this with rfl | rfl
    · have ha : atD [D.str [c], D.str [uppC c]] 0 = some (.str [c]) := rfl
      exact ⟨[c], l1, by simp [e_law_otherwise_0, evE, evT, evL, op2W, pk, pkL, op2, eqO, okD, eqD, h95, trW, trD, fnCall_f, ex, rcv, smW, hu, hb, mk2, unW, idxW, ha], ⟨by simp, .inr ⟨h95, c, rfl, .inl rfl⟩⟩, v1⟩
    · have ha : atD [D.str [c], D.str [uppC c]] 1 = some (.str [uppC c]) := rfl
      exact ⟨[uppC c], l1, by simp [e_law_otherwise_0, evE, evT, evL, op2W, pk, pkL, op2, eqO, okD, eqD, h95, trW, trD, fnCall_f, ex, rcv, smW, hu, hb, mk2, unW, idxW, ha], ⟨by simp, .inr ⟨h95, uppC c, rfl, .inr rfl⟩⟩, v1⟩
theorem add_s {a b : Tx} (h : a.length + b.length ≤ 16777216) : addD (.str a) (.str b) = some (.str (a ++ b)) := by
  simp [addD, h]
theorem otherwise {k n : Nat} {l : Loc} {nm : Tx} (hk : 3 ≤ k) (h : VS l n) (hl : nm.length ≤ 24) (ha : ∀ c ∈ nm, c < 128) : ∃ pre o suf l', cl k f_law_otherwise [.d (.str nm), .r n] l = .ok (.d (.str (pre ++ o ++ suf))) l' ∧ Alt nm o ∧ (∀ c ∈ pre, c ∈ B3) ∧ (∀ c ∈ suf, c ∈ B3) ∧ (pre ++ o ++ suf).length ≤ 50 ∧ VG n l l' := by
  obtain ⟨k, rfl⟩ := pos_of (show 1 ≤ k by omega)
  rw [cl_eq (df := d_law_otherwise) rfl rfl]
  obtain ⟨ss, l1, e1, r1, v1⟩ := lc_each (i := 3) (ρ := [some (.d (.str nm)), some (.r n), none, none]) (ec := evC (CF k) .nil) (ee := evE (CF k) e_law_otherwise_0) (P := VG n l) (R := OwR) (fun c l2 hv hc => by
    obtain ⟨s, l3, e3, r3, v3⟩ := ow_e (k := k) (by omega) hv.vs hc (some (.d (.str nm))) none
    exact ⟨s, l3, e3, r3, hv.trans v3⟩) (fun ρ l => rfl) nm l (VG.refl h) ha
  obtain ⟨oa, o1, o2, o3⟩ := lr_alt r1
  obtain ⟨x, l2, ex, x0, x1, v2⟩ := digit (k := k) (base := 3) (by omega) v1.vs (by omega) (by omega)
  obtain ⟨y, l3, ey, y0, y1, v3⟩ := digit (k := k) (base := 3) (by omega) v2.vs (by omega) (by omega)
  obtain ⟨pre, ep, pb, pl⟩ : ∃ pre : Tx, atD [D.str [], D.str [32], D.str [45]] x = some (.str pre) ∧ (∀ c ∈ pre, c ∈ B3) ∧ pre.length ≤ 1 := by
    have : x = 0 ∨ x = 1 ∨ x = 2 := by omega
    rcases this with rfl | rfl | rfl
    · exact ⟨[], rfl, by simp, by simp⟩
    · exact ⟨[32], rfl, by decide, by simp⟩
    · exact ⟨[45], rfl, by decide, by simp⟩
  obtain ⟨suf, es, sb, sl⟩ : ∃ suf : Tx, atD [D.str [], D.str [95], D.str [32]] y = some (.str suf) ∧ (∀ c ∈ suf, c ∈ B3) ∧ suf.length ≤ 1 := by
    have : y = 0 ∨ y = 1 ∨ y = 2 := by omega
    rcases this with rfl | rfl | rfl
    · exact ⟨[], rfl, by simp, by simp⟩
    · exact ⟨[95], rfl, by decide, by simp⟩
    · exact ⟨[32], rfl, by decide, by simp⟩
  have hm := mkl (xs := ss) (l := l1) (by omega)
  have hj := smj (xs := ss) (sep := []) (l := l1) (by simp; omega)
  rw [join_nil] at hj
  have a1 := add_s (a := pre) (b := ss.flatten) (by omega)
  have a2 := add_s (a := pre ++ ss.flatten) (b := suf) (by simp only [List.length_append]; omega)
  refine ⟨pre, ss.flatten, suf, l3, ?_, oa, pb, sb, by simp only [List.length_append]; omega, (v1.trans v2).trans v3⟩
  rw [List.append_assoc] at a2 ⊢
  simp [d_law_otherwise, evSs, evS, evE, evL, evT, startE, asgT, fnCall_f, ex, ey, op2W, pk, op2, itms, walked, stays_no, e1, noExc, wipeE, hm, hj, mk3, idxW, rcv, ep, es, a1, a2, Out.res]
theorem any_ {k n : Nat} {l : Loc} (hk : 2 ≤ k) (h : VS l n) : ∃ c l', cl k f_law_any [.r n] l = .ok (.d (.str [c])) l' ∧ c < 128 ∧ VG n l l' := by
  obtain ⟨k, rfl⟩ := pos_of (show 1 ≤ k by omega)
  rw [cl_eq (df := d_law_any) rfl rfl]
  obtain ⟨x, l1, ex, x0, x1, v1⟩ := digit (k := k) (base := 94) (by omega) h (by omega) (by omega)
  obtain ⟨c, ec, hc⟩ := atn (xs := [32, 33, 34, 35, 36, 38, 39, 40, 41, 42, 43, 44, 45, 46, 47, 48, 49, 50, 51, 52, 53, 54, 55, 56, 57, 58, 59, 60, 61, 62, 63, 64, 65, 66, 67, 68, 69, 70, 71, 72, 73, 74, 75, 76, 77, 78, 79, 80, 81, 82, 83, 84, 85, 86, 87, 88, 89, 90, 91, 92, 93, 94, 95, 96, 97, 98, 99, 100, 101, 102, 103, 104, 105, 106, 107, 108, 109, 110, 111, 112, 113, 114, 115, 116, 117, 118, 119, 120, 121, 122, 123, 124, 125, 126]) x0 (by simpa using x1)
  refine ⟨c, l1, ?_, ?_, v1⟩
  · simp [d_law_any, evSs, evS, evE, evL, startE, asgT, fnCall_f, ex, idxW, ec, Out.res]
  · have : ∀ c ∈ ([32, 33, 34, 35, 36, 38, 39, 40, 41, 42, 43, 44, 45, 46, 47, 48, 49, 50, 51, 52, 53, 54, 55, 56, 57, 58, 59, 60, 61, 62, 63, 64, 65, 66, 67, 68, 69, 70, 71, 72, 73, 74, 75, 76, 77, 78, 79, 80, 81, 82, 83, 84, 85, 86, 87, 88, 89, 90, 91, 92, 93, 94, 95, 96, 97, 98, 99, 100, 101, 102, 103, 104, 105, 106, 107, 108, 109, 110, 111, 112, 113, 114, 115, 116, 117, 118, 119, 120, 121, 122, 123, 124, 125, 126] : Tx), c < 128 := by decide
    exact this c hc
end Vx

set_option maxHeartbeats 400000
namespace Vx
open PySem L2
/-! plain names -/
def SegOk (s : Tx) : Prop := ∃ w : Tx, w ≠ [] ∧ w.length ≤ 3 ∧ (∀ c ∈ w, c ∈ P36) ∧ (s = w ∨ ∃ c, c ∈ P36 ∧ s = w ++ [95, c])
theorem SegOk.len {s : Tx} (h : SegOk s) : s.length ≤ 5 := by
  obtain ⟨w, _, h1, _, rfl | ⟨c, _, rfl⟩⟩ := h
  · omega
  · simp; omega
theorem pn_e {k n : Nat} (hk : 1 ≤ k) {l : Loc} (hv : VS l n) (a b c : Option W) (d : W) : ∃ s l', evE (CF k) e_law_plain_name_0 [some (.r n), some (.d (.str P36)), a, b, c, some d] l = .ok (.d (.str s)) l' ∧ (∃ c, s = [c] ∧ c ∈ P36) ∧ VG n l l' := by
  obtain ⟨x, l1, e, x0, x1, v1⟩ := digit (k := k) (base := 36) hk hv (by omega) (by omega)
  obtain ⟨c, ec, hc⟩ := atn (xs := P36) x0 (by simpa using x1)
  refine ⟨[c], l1, ?_, ⟨c, rfl, hc⟩, v1⟩
  simp [e_law_plain_name_0, evE, evL, fnCall_f, e, idxW, ec]
theorem VG.put {n m : Nat} {a b : Loc} {x : Obj} (h : VG n a b) (hm : a.length ≤ m) (hn : m ≠ n) : VG n a (b.set m x) := ⟨h.vs.set hn, h.fr.put hm⟩
theorem VG.app {n : Nat} {a b r : Loc} (h : VG n a b) : VG n a (b ++ r) := ⟨h.vs.app, h.fr.app2⟩
/-- an object of ours at m stays -/
theorem VG.keep {n m : Nat} {a b : Loc} {o : Obj} (h : VG n a b) (hn : m ≠ n) (e : a[m]? = some o) : b[m]? = some o := by
  rw [h.fr.2 m (List.getElem?_eq_some_iff.mp e).1 hn]; exact e
theorem seg_join2 (w c : Tx) : TL.joinL [95] [w, c] = w ++ 95 :: c := rfl
theorem pn_b {k n m : Nat} {l0 l : Loc} {segs : List Tx} {a c d : Option W} (hk : 1 ≤ k) (hv : VG n l0 l) (hm : l0.length ≤ m) (hmn : m ≠ n) (hl : l[m]? = some (.lst (segs.map fun s => .d (.str s)))) (hz : segs.length ≤ 10) :
    ∃ seg l' c', evSs (CF k) b_law_plain_name_0 [some (.r n), some (.d (.str P36)), some (.r m), a, c, d] l = .nx [some (.r n), some (.d (.str P36)), some (.r m), a, c', d] l' ∧ SegOk seg ∧ VG n l0 l' ∧ l'[m]? = some (.lst ((segs ++ [seg]).map fun s => .d (.str s))) := by
  obtain ⟨x, l1, ex, x0, x1, v1⟩ := digit (k := k) (base := 3) (by omega) hv.vs (by omega) (by omega)
  have hs : small62 (1 + x) = true := by unfold small62; simp; omega
  obtain ⟨ss, l2, e2, hss, hlen, v2⟩ := lc_gen (f := fun (i : Nat) => .int (i : Int)) (i := 5) (ρ := [some (.r n), some (.d (.str P36)), some (.r m), a, c, none]) (ec := evC (CF k) .nil) (ee := evE (CF k) e_law_plain_name_0) (P := VG n l1) (R := fun s => ∃ c, s = [c] ∧ c ∈ P36) (fun d l2 hv => by
    obtain ⟨s, l3, e3, r3, v3⟩ := pn_e (k := k) (by omega) hv.vs (some (.r m)) a c (.d d)
    exact ⟨s, l3, e3, r3, hv.trans v3⟩) (fun ρ l => rfl) (List.range (1 + x).toNat) l1 (VG.refl v1.vs)
  obtain ⟨f1, f2⟩ := flat1 hss
  have hsum := sum1 hss
  have hlen' : ss.length = (1 + x).toNat := by simpa using hlen
  have hm1 := mkl (xs := ss) (l := l2) (by omega)
  have hj := smjD (xs := ss) (sep := []) (by rw [hsum]; simp; omega)
  rw [join_nil] at hj
  generalize hw : ss.flatten = w at *
  have hw0 : w ≠ [] := fun z => by rw [z] at f1; simp at f1; omega
  have hw3 : w.length ≤ 3 := by omega
  have v12 := (hv.trans v1).trans v2
  have hl2 : l2[m]? = some (.lst (segs.map fun s => .d (.str s))) := v2.keep hmn (v1.keep hmn hl)
  have hml2 : m < l2.length := (List.getElem?_eq_some_iff.mp hl2).1
  have hnl2 : n < l2.length := v2.vs.lt
  -- the bits
  have hp : (l2 ++ [Obj.lst [W.d (.str w)]])[l2.length]? = some (.lst [.d (.str w)]) := by simp
  have v3 : VG n l0 (l2 ++ [Obj.lst [W.d (.str w)]]) := v12.app
  have hl3 : (l2 ++ [Obj.lst [W.d (.str w)]])[m]? = some (.lst (segs.map fun s => .d (.str s))) := by rw [List.getElem?_append_left hml2]; exact hl2
  obtain ⟨y, l4, ey, y0, y1, v4⟩ := digit (k := k) (base := 4) (by omega) v3.vs (by omega) (by omega)
  have hpn : l2.length ≠ n := by omega
  have hpm : l2.length ≠ m := by omega
  have hp4 := v4.keep hpn hp
  have hl4 := v4.keep hmn hl3
  have hlen0 : l0.length ≤ l2.length := v12.fr.1
  have hmap : segs.length < 16777216 := by omega
  by_cases hy : y = 0
  · subst hy
    obtain ⟨z, l5, ez, z0, z1, v5⟩ := digit (k := k) (base := 36) (by omega) v4.vs (by omega) (by omega)
    obtain ⟨cc, ec, hc⟩ := atn (xs := P36) z0 (by simpa using z1)
    have hp5 := v5.keep hpn hp4
    have hl5 := v5.keep hmn hl4
    have hpl : l2.length < l5.length := (List.getElem?_eq_some_iff.mp hp5).1
    have hml5 : m < l5.length := (List.getElem?_eq_some_iff.mp hl5).1
    have hp6 : (l5.set l2.length (.lst [.d (.str w), .d (.str [cc])]))[l2.length]? = some (.lst [.d (.str w), .d (.str [cc])]) := by simp [hpl]
    have hl6 : (l5.set l2.length .dead)[m]? = some (.lst (segs.map fun s => .d (.str s))) := by
      rw [List.getElem?_set_ne hpm]; exact hl5
    refine ⟨w ++ [95, cc], (l5.set l2.length .dead).set m (.lst ((segs ++ [w ++ [95, cc]]).map fun s => .d (.str s))), some (.r l2.length), ?_, ⟨w, hw0, hw3, f2, .inr ⟨cc, hc, rfl⟩⟩, ?_, by simp [hml5]⟩
    · have hl5' : (l5.set l2.length (.lst [.d (.str w), .d (.str [cc])]))[m]? = some (.lst (segs.map fun s => .d (.str s))) := by rw [List.getElem?_set_ne hpm]; exact hl5
      have hjj : smD .join (.str [95]) [.lst [.str w, .str [cc]]] = some (.str (w ++ [95, cc])) := by
        simp [smD, unStr, TL.joinL]
        omega
      have hmp : ([some (W.r n), some (.d (.str P36)), some (.r m), a, some (.r l2.length), d] : Env) = [some (.r n), some (.d (.str P36)), some (.r m), a, some (.r l2.length), d] := rfl
      simp [b_law_plain_name_0, evSs, evS, evE, evT, evL, asgT, fnCall_f, itms, walked, stays_no, ex, op2W, pk, pkL, op2, addD, hs, noExc, wipeE, e2, hm1, rcv, hj, mkm, ey, eqO, okD, eqD, trW, trD, ez, idxW, ec, hp4, hp5, hl4, smW, appW, hp6, hl5', frzW, unW, hjj, hl6, hmap]
    · exact (((v3.trans v4).trans v5).put hlen0 hpn).put hm hmn
  · have hyb : (y == 0) = false := by simpa using hy
    have hpl : l2.length < l4.length := (List.getElem?_eq_some_iff.mp hp4).1
    have hml4 : m < l4.length := (List.getElem?_eq_some_iff.mp hl4).1
    have hl6 : (l4.set l2.length .dead)[m]? = some (.lst (segs.map fun s => .d (.str s))) := by
      rw [List.getElem?_set_ne hpm]; exact hl4
    refine ⟨w, (l4.set l2.length .dead).set m (.lst ((segs ++ [w]).map fun s => .d (.str s))), some (.r l2.length), ?_, ⟨w, hw0, hw3, f2, .inl rfl⟩, ?_, by simp [hml4]⟩
    · have hjj : smD .join (.str [95]) [.lst [.str w]] = some (.str w) := by
        simp [smD, unStr, TL.joinL]
        omega
      simp [b_law_plain_name_0, evSs, evS, evE, evT, evL, asgT, fnCall_f, itms, walked, stays_no, ex, op2W, pk, pkL, op2, addD, hs, noExc, wipeE, e2, hm1, rcv, hj, mkm, ey, eqO, okD, eqD, hyb, hy, trW, trD, idxW, hp4, smW, appW, hl4, frzW, unW, hjj, hl6, hmap]
    · exact ((v3.trans v4).put hlen0 hpn).put hm hmn
theorem pn_for {k n m : Nat} {l0 : Loc} (hk : 1 ≤ k) (hm : l0.length ≤ m) (hmn : m ≠ n) : ∀ (xs : List Nat) (l : Loc) (segs : List Tx) (a c d : Option W), VG n l0 l → l[m]? = some (.lst (segs.map fun s => .d (.str s))) → segs.length + xs.length ≤ 10 → (∀ s ∈ segs, SegOk s) →
    ∃ (segs' : List Tx) (l' : Loc) (a' c' : Option W), forGo (fun _ => True) (evSs (CF k) b_law_plain_name_0) (.n 3) (xs.map fun (i : Nat) => Itm.one (.d (.int (i : Int)))) [some (.r n), some (.d (.str P36)), some (.r m), a, c, d] l = .nx [some (.r n), some (.d (.str P36)), some (.r m), a', c', d] l' ∧ VG n l0 l' ∧ l'[m]? = some (.lst (segs'.map fun s => .d (.str s))) ∧ segs'.length = segs.length + xs.length ∧ ∀ s ∈ segs', SegOk s
  | [], l, segs, a, c, d, hv, hl, _, hs => ⟨segs, l, a, c, by simp [forGo], hv, hl, by simp, hs⟩
  | x :: xs, l, segs, a, c, d, hv, hl, hz, hs => by
    simp only [List.length_cons] at hz
    obtain ⟨seg, l1, c1, e1, s1, v1, h1⟩ := pn_b (k := k) (a := some (.d (.int (x : Int)))) (c := c) (d := d) hk hv hm hmn hl (by omega)
    obtain ⟨segs', l2, a2, c2, e2, v2, h2, n2, s2⟩ := pn_for hk hm hmn xs l1 (segs ++ [seg]) (some (.d (.int (x : Int)))) c1 d v1 h1 (by simp; omega) (fun s hs' => by
      rcases List.mem_append.mp hs' with hs' | hs'
      · exact hs s hs'
      · rw [List.mem_singleton.mp hs']; exact s1)
    refine ⟨segs', l2, a2, c2, ?_, v2, h2, by simp at n2 ⊢; omega, s2⟩
    rw [List.map_cons]
    unfold forGo
    rw [if_pos trivial]
    simp only [asgI, asgT, List.set]
    rw [e1]
    exact e2
/-- a plain name -/
structure NmOk (t : Tx) : Prop where
  segs : ∃ ss : List Tx, ss ≠ [] ∧ ss.length ≤ 4 ∧ (∀ s ∈ ss, SegOk s) ∧ t = TL.joinL [47] ss
theorem plain_name {k n : Nat} {l : Loc} (hk : 2 ≤ k) (h : VS l n) : ∃ t l', cl k f_law_plain_name [.r n] l = .ok (.d (.str t)) l' ∧ NmOk t ∧ VG n l l' := by
  obtain ⟨k, rfl⟩ := pos_of (show 1 ≤ k by omega)
  rw [cl_eq (df := d_law_plain_name) rfl rfl]
  have v0 : VG n l (l ++ [Obj.lst []]) := (VG.refl h).app
  obtain ⟨x, l1, ex, x0, x1, v1⟩ := digit (k := k) (base := 5) (by omega) v0.vs (by omega) (by omega)
  obtain ⟨y, ey, hy⟩ : ∃ y : Int, atD [D.int 1, D.int 1, D.int 2, D.int 3, D.int 4] x = some (.int y) ∧ 1 ≤ y ∧ y ≤ 4 := by
    have : x = 0 ∨ x = 1 ∨ x = 2 ∨ x = 3 ∨ x = 4 := by omega
    rcases this with rfl | rfl | rfl | rfl | rfl
    · exact ⟨1, rfl, by omega, by omega⟩
    · exact ⟨1, rfl, by omega, by omega⟩
    · exact ⟨2, rfl, by omega, by omega⟩
    · exact ⟨3, rfl, by omega, by omega⟩
    · exact ⟨4, rfl, by omega, by omega⟩
  have hs : small62 y = true := by unfold small62; simp; omega
  have hn := h.lt
  have hmn : l.length ≠ n := by omega
  have hl1 : l1[l.length]? = some (.lst (([] : List Tx).map fun s => .d (.str s))) := v1.keep hmn (by simp)
  obtain ⟨ss, l2, a2, c2, e2, v2, h2, n2, s2⟩ := pn_for (k := k) (n := n) (m := l.length) (l0 := l) (by omega) (Nat.le_refl _) hmn (List.range y.toNat) l1 [] none none none (v0.trans v1) hl1 (by simp; omega) (by simp)
  have hlen : ss.length = y.toNat := by simpa using n2
  have hb : ∀ s ∈ ss, s.length ≤ 5 := fun s hs => (s2 s hs).len
  have hsum := sum_le hb
  have hj := smj (xs := ss) (sep := [47]) (l := l2.set l.length .dead) (by simp; omega)
  have hu := unW_map (fun s => D.str s) ss
  refine ⟨TL.joinL [47] ss, l2.set l.length .dead, ?_, ⟨ss, fun z => ?_, by omega, s2, rfl⟩, v2.put (Nat.le_refl _) hmn⟩
  · simp [d_law_plain_name, evSs, evS, evE, evL, startE, asgT, mkm, fnCall_f, ex, mk5, idxW, ey, itms, walked, stays_no, hs, e2, rcv, frzW, h2, hu, hj, Out.res]
  · subst z
    simp at hlen
    omega
end Vx

set_option maxHeartbeats 400000
namespace Vx
open PySem L2
/-! texts drawn -/
abbrev TS : List Tx := [[10], [92], [58, 32], [32, 62, 32], [91, 91, 97, 93, 93], [110], [92, 110], [32, 35, 32], [61, 32, 112, 32, 61]]
theorem ts_ok : ∀ s ∈ TS, s.length ≤ 5 ∧ ∀ c ∈ s, c < 128 := by decide
theorem tx_b {k n : Nat} {l : Loc} {t : Tx} {d : Option W} (hk : 2 ≤ k) (hv : VS l n) (ht : t.length ≤ 100) :
    ∃ s l', evSs (CF k) b_law_text_0 [some (.r n), some (.d (.lst (TS.map .str))), some (.d (.str t)), d] l = .nx [some (.r n), some (.d (.lst (TS.map .str))), some (.d (.str (t ++ s))), d] l' ∧ s.length ≤ 5 ∧ (∀ c ∈ s, c < 128) ∧ VG n l l' := by
  obtain ⟨x, l1, ex, x0, x1, v1⟩ := digit (k := k) (base := 9) (by omega) hv (by omega) (by omega)
  obtain ⟨s1, es, hs⟩ := atn (xs := TS) x0 (by simpa using x1)
  have es' : atD (TS.map D.str) x = some (.str s1) := by
    have := es
    unfold atD L2.atI at this ⊢
    rw [List.length_map]
    cases q : L2.ixN TS.length x with
    | none => rw [q] at this; cases this
    | some j =>
      rw [q] at this
      simp only [Option.bind_some] at this ⊢
      rw [List.getElem?_map, this]
      rfl
  simp only [TS, List.map_cons, List.map_nil] at es'
  obtain ⟨c, l2, e2, hc, v2⟩ := any_ (k := k) hk v1.vs
  obtain ⟨y, l3, ey, y0, y1, v3⟩ := digit (k := k) (base := 2) (by omega) v2.vs (by omega) (by omega)
  obtain ⟨h5, h128⟩ := ts_ok s1 hs
  have v := (v1.trans v2).trans v3
  have : y = 0 ∨ y = 1 := by omega
  rcases this with rfl | rfl
  · have a1 := add_s (a := t) (b := s1) (by omega)
    have ha : atD [D.str s1, D.str [c]] 0 = some (.str s1) := rfl
    exact ⟨s1, l3, by simp [b_law_text_0, evSs, evS, evE, evL, asgT, fnCall_f, ex, idxW, es', e2, mk2, ey, ha, op2W, pk, op2, a1], h5, h128, v⟩
  · have a1 := add_s (a := t) (b := [c]) (by simp; omega)
    have ha : atD [D.str s1, D.str [c]] 1 = some (.str [c]) := rfl
    exact ⟨[c], l3, by simp [b_law_text_0, evSs, evS, evE, evL, asgT, fnCall_f, ex, idxW, es', e2, mk2, ey, ha, op2W, pk, op2, a1], by simp, by simpa using hc, v⟩
theorem tx_for {k n : Nat} (hk : 2 ≤ k) : ∀ (xs : List Nat) (l : Loc) (t : Tx) (d : Option W), VS l n → t.length + 5 * xs.length ≤ 100 → (∀ c ∈ t, c < 128) →
    ∃ (t' : Tx) (l' : Loc) (d' : Option W), forGo (fun _ => True) (evSs (CF k) b_law_text_0) (.n 3) (xs.map fun (i : Nat) => Itm.one (.d (.int (i : Int)))) [some (.r n), some (.d (.lst (TS.map .str))), some (.d (.str t)), d] l = .nx [some (.r n), some (.d (.lst (TS.map .str))), some (.d (.str t')), d'] l' ∧ VG n l l' ∧ t'.length ≤ t.length + 5 * xs.length ∧ ∀ c ∈ t', c < 128
  | [], l, t, d, hv, _, hs => ⟨t, l, d, by simp [forGo], VG.refl hv, by simp, hs⟩
  | x :: xs, l, t, d, hv, hz, hs => by
    simp only [List.length_cons] at hz
    obtain ⟨s, l1, e1, s1, s2, v1⟩ := tx_b (k := k) (t := t) (d := some (.d (.int (x : Int)))) hk hv (by omega)
    obtain ⟨t', l2, d2, e2, v2, h2, h3⟩ := tx_for hk xs l1 (t ++ s) (some (.d (.int (x : Int)))) v1.vs (by simp; omega) (fun c hc => by
      rcases List.mem_append.mp hc with hc | hc
      · exact hs c hc
      · exact s2 c hc)
    refine ⟨t', l2, d2, ?_, v1.trans v2, by simp at h2 ⊢; omega, h3⟩
    rw [List.map_cons]
    unfold forGo
    rw [if_pos trivial]
    simp only [asgI, asgT, List.set]
    rw [e1]
    exact e2
theorem text_ {k n : Nat} {l : Loc} (hk : 3 ≤ k) (h : VS l n) : ∃ t l', cl k f_law_text [.r n] l = .ok (.d (.str t)) l' ∧ t.length ≤ 400 ∧ (∀ c ∈ t, c < 128) ∧ VG n l l' := by
  obtain ⟨k, rfl⟩ := pos_of (show 1 ≤ k by omega)
  rw [cl_eq (df := d_law_text) rfl rfl]
  obtain ⟨x, l1, ex, x0, x1, v1⟩ := digit (k := k) (base := 7) (by omega) h (by omega) (by omega)
  have hs : small62 x = true := by unfold small62; simp; omega
  obtain ⟨t, l2, d2, e2, v2, h2, h3⟩ := tx_for (k := k) (n := n) (by omega) (List.range x.toNat) l1 [] none v1.vs (by simp; omega) (by simp)
  have htl : t.length ≤ 30 := by simp at h2; omega
  obtain ⟨y, l3, ey, y0, y1, v3⟩ := digit (k := k) (base := 9) (by omega) v2.vs (by omega) (by omega)
  have hml : ∀ l : Loc, mkLst false [W.d (.str [10]), .d (.str [92]), .d (.str [58, 32]), .d (.str [32, 62, 32]), .d (.str [91, 91, 97, 93, 93]), .d (.str [110]), .d (.str [92, 110]), .d (.str [32, 35, 32]), .d (.str [61, 32, 112, 32, 61])] l = .ok (.d (.lst (TS.map .str))) l := fun _ => rfl
  have v := (v1.trans v2).trans v3
  simp only [TS, List.map_cons, List.map_nil] at hml e2
  have htz : t.length ≤ 16777216 := by omega
  by_cases hy : y = 0
  · subst hy
    obtain ⟨z, l4, ez, z0, z1, v4⟩ := digit (k := k) (base := 2) (by omega) v3.vs (by omega) (by omega)
    have hz : (400 - (t.length : Int) - z).toNat ≤ 400 := by omega
    have hz2 : t.length + (400 - (t.length : Int) - z).toNat ≤ 400 := by omega
    have hlo : (-9223372036854775808 : Int) ≤ 400 - (t.length : Int) - z := by omega
    have hhi : 400 - (t.length : Int) - z < 9223372036854775808 := by omega
    have hfl : (List.replicate (400 - (t.length : Int) - z).toNat [10]).flatten = List.replicate (400 - (t.length : Int) - z).toNat 10 := by
      generalize (400 - (t.length : Int) - z).toNat = m
      induction m with
      | zero => rfl
      | succ m ih => rw [List.replicate_succ, List.flatten_cons, ih]; rfl
    have hmul : mulD (.str [10]) (.int (400 - (t.length : Int) - z)) = some (.str (List.replicate (400 - (t.length : Int) - z).toNat 10)) := by
      rw [← hfl]
      show (if _ then _ else _) = _
      rw [if_pos ⟨hlo, hhi, by simp only [List.length_cons, List.length_nil]; omega⟩]
    have a1 := add_s (a := t) (b := List.replicate (400 - (t.length : Int) - z).toNat 10) (by simp only [List.length_replicate]; omega)
    refine ⟨t ++ List.replicate (400 - (t.length : Int) - z).toNat 10, l4, ?_, by simp only [List.length_append, List.length_replicate]; omega, fun c hc => ?_, v.trans v4⟩
    · simp [d_law_text, evSs, evS, evE, evT, evL, startE, asgT, hml, fnCall_f, ex, itms, walked, stays_no, hs, e2, ey, op2W, pk, op2, eqO, okD, eqD, trW, trD, ez, biD, htz, subD, hmul, a1, Out.res]
    · rcases List.mem_append.mp hc with hc | hc
      · exact h3 c hc
      · rw [List.eq_of_mem_replicate hc]; omega
  · have hyb : (y == 0) = false := by simpa using hy
    refine ⟨t, l3, ?_, by omega, h3, v⟩
    simp [d_law_text, evSs, evS, evE, evT, evL, startE, asgT, hml, fnCall_f, ex, itms, walked, stays_no, hs, e2, ey, op2W, pk, op2, eqO, okD, eqD, hyb, hy, trW, trD, Out.res]
end Vx

set_option maxHeartbeats 400000
namespace Vx
open PySem L2
/-! rows of deeds: what they come to -/
def targ (t : Tx) : D := match sp1 35 [] t with
  | [a] => (match nameD a with
    | .str n => .tup [.str n, .non]
    | _ => .non)
  | [a, b] => (match nameD a, partD b with
    | .str n, .str p => .tup [.str n, .str p]
    | _, _ => .non)
  | _ => .non
def ttxt : D → D
  | .tup [.str n, .str p] => .str (n ++ 35 :: p)
  | .tup [.str n, .non] => .str n
  | _ => .non
def une : Tx → Option Tx
  | [] => some []
  | c :: r => if c = 10 then none else if c = 92 then (match r with
    | [] => none
    | d :: r => if d = 110 then (une r).map (10 :: ·) else if d = 92 then (une r).map (92 :: ·) else none) else (une r).map (c :: ·)
abbrev WWRITE : Tx := [119, 114, 105, 116, 101]
abbrev WPART : Tx := [112, 97, 114, 116]
abbrev WSIGN : Tx := [115, 105, 103, 110]
abbrev WSTR : Tx := [115, 116, 114, 97, 105, 103, 104, 116]
abbrev WREN : Tx := [114, 101, 110, 97, 109, 101]
abbrev WJOIN : Tx := [106, 111, 105, 110]
abbrev WFAM : Tx := [102, 97, 109, 105, 108, 121]
abbrev WAWAY : Tx := [97, 119, 97, 121]
abbrev WBACK : Tx := [98, 97, 99, 107]
abbrev WRENEW : Tx := [114, 101, 110, 101, 119]
def readWrite (r : Tx) : D := match TL.par [58, 32] [] r with
  | none => .non
  | some (a, b) => (match nameD a, une b with
    | .str n, some t => if 400 < t.length then .non else .tup [.str WWRITE, .str n, .str t]
    | _, _ => .non)
def readPart (r : Tx) : D := match TL.spl [32, 62, 32] 0 [] r with
  | [x, z] => (match TL.spl [32, 35, 32] 0 [] x with
    | [h, p] => (match nameD h, partD p, nameD z with
      | .str a, .str b, .str c => .tup [.str WPART, .str a, .str b, .str c]
      | _, _, _ => .non)
    | _ => .non)
  | _ => .non
def other (w z : Tx) : D := if w = WSIGN then (match targ z with
  | .non => nameD z
  | d => ttxt d) else nameD z
def readTwo (w r : Tx) : D := match TL.spl [32, 62, 32] 0 [] r with
  | [x, z] => (match nameD x, other w z with
    | .str a, .str b => .tup [.str w, .str a, .str b]
    | _, _ => .non)
  | _ => .non
def readOne (w r : Tx) : D := match nameD r with
  | .str a => .tup [.str w, .str a]
  | _ => .non
/-- the words of deeds, how long the deeds are -/
def szs : List (Tx × Int) := [(WWRITE, 3), (WREN, 3), (WPART, 4), (WJOIN, 3), (WAWAY, 2), (WBACK, 2), (WSIGN, 3), (WFAM, 3), (WSTR, 1), (WRENEW, 2)]
def size (w : Tx) : Option Int := (szs.find? fun q => q.1 == w).map (·.2)
def deedD (r : Tx) : D := if r = WSTR then .tup [.str r] else match TL.par [32] [] r with
  | none => .non
  | some (w, rest) => if (size w).getD 1 = 1 then .non else if w = WWRITE then readWrite rest else if w = WPART then readPart rest else if size w = some 2 then readOne w rest else readTwo w rest
theorem nameD_ne {t : Tx} (h : ∀ d, nameD t ≠ .str d) : nameD t = .non := by
  rcases name_cases t with e | ⟨d, e, _⟩
  · exact e
  · exact absurd e (h d)
theorem targ_cases (t : Tx) : targ t = .non ∨ (∃ n, targ t = .tup [.str n, .non] ∧ n.length ≤ 24) ∨ ∃ n p, targ t = .tup [.str n, .str p] ∧ n.length ≤ 24 ∧ p.length ≤ 12 := by
  unfold targ
  split
  · rename_i a _
    rcases name_cases a with e | ⟨d, e, h, _⟩
    · rw [e]; exact .inl rfl
    · rw [e]; exact .inr (.inl ⟨d, rfl, h⟩)
  · rename_i a b _
    rcases name_cases a with e | ⟨d, e, h, _⟩
    · rw [e]; exact .inl rfl
    · rw [e]
      rcases partD_cases b with e2 | ⟨p, e2, _, h2⟩
      · rw [e2]; exact .inl rfl
      · rw [e2]; exact .inr (.inr ⟨d, p, rfl, h, h2⟩)
  · exact .inl rfl
theorem une_len : ∀ {s t : Tx}, une s = some t → t.length ≤ s.length
  | [], t, h => by
    unfold une at h
    cases h
    simp
  | c :: r, t, h => by
    unfold une at h
    split at h
    · cases h
    · split at h
      · cases r with
        | nil => cases h
        | cons d r =>
          dsimp only at h
          split at h
          · cases q : une r with
            | none => rw [q] at h; cases h
            | some u =>
              rw [q] at h
              cases h
              have := une_len q
              simp only [List.length_cons]; omega
          · split at h
            · cases q : une r with
              | none => rw [q] at h; cases h
              | some u =>
                rw [q] at h
                cases h
                have := une_len q
                simp only [List.length_cons]; omega
            · cases h
      · cases q : une r with
        | none => rw [q] at h; cases h
        | some u =>
          rw [q] at h
          cases h
          have := une_len q
          simp only [List.length_cons]; omega
theorem par_len {p : Tx} : ∀ {s acc a b : Tx}, TL.par p acc s = some (a, b) → a.length + b.length ≤ acc.length + s.length
  | [], acc, a, b, h => by cases h
  | c :: r, acc, a, b, h => by
    unfold TL.par at h
    split at h
    · cases h
      simp only [List.length_drop, List.length_cons]; omega
    · have := par_len h
      simp only [List.length_append, List.length_cons, List.length_nil] at this ⊢
      omega
theorem spl_mem {p : Tx} : ∀ {k : Nat} {s acc w : Tx}, w ∈ TL.spl p k acc s → w.length ≤ acc.length + s.length
  | k, [], acc, w, h => by
    rw [TL.spl_nil, List.mem_singleton] at h
    subst h; simp
  | 0, c :: r, acc, w, h => by
    unfold TL.spl at h
    split at h
    · rcases List.mem_cons.mp h with rfl | h
      · simp
      · have := spl_mem h
        simp only [List.length_nil, List.length_cons] at this ⊢
        omega
    · have := spl_mem h
      simp only [List.length_append, List.length_cons, List.length_nil] at this ⊢
      omega
  | k + 1, c :: r, acc, w, h => by
    unfold TL.spl at h
    have := spl_mem h
    simp only [List.length_cons] at this ⊢
    omega
end Vx

set_option maxHeartbeats 400000
namespace Vx
open PySem L2
theorem at_0 {α : Type} (a : α) (r : List α) : atD (a :: r) 0 = some a := by
  unfold atD L2.atI L2.ixN
  simp
theorem at_1 {α : Type} (a b : α) (r : List α) : atD (a :: b :: r) 1 = some b := by
  have : (1 : Int) < ((a :: b :: r).length : Int) := by simp only [List.length_cons]; omega
  show (if (0 : Int) ≤ 1 then if (1 : Int) < ((a :: b :: r).length : Int) then some (1 : Int).toNat else none else _).bind _ = _
  rw [if_pos (by omega), if_pos this]
  rfl
theorem at_2 {α : Type} (a b c : α) (r : List α) : atD (a :: b :: c :: r) 2 = some c := by
  have : (2 : Int) < ((a :: b :: c :: r).length : Int) := by simp only [List.length_cons]; omega
  show (if (0 : Int) ≤ 2 then if (2 : Int) < ((a :: b :: c :: r).length : Int) then some (2 : Int).toNat else none else _).bind _ = _
  rw [if_pos (by omega), if_pos this]
  rfl
theorem any2 (d a b : D) : anyD d [a, b] = (eqD a d || (eqD b d || false)) := rfl
theorem name_D (t : Tx) : nameD t = .non ∨ ∃ d, nameD t = .str d := by
  rcases name_cases t with e | ⟨d, e, _⟩
  · exact .inl e
  · exact .inr ⟨d, e⟩
theorem part_D (t : Tx) : partD t = .non ∨ ∃ d, partD t = .str d := by
  rcases partD_cases t with e | ⟨d, e, _⟩
  · exact .inl e
  · exact .inr ⟨d, e⟩
theorem target_ {k : Nat} {t : Tx} {l : Loc} (hk : 4 ≤ k) (hl : t.length ≤ 1000) : cl k f_target [.d (.str t)] l = .ok (.d (targ t)) l := by
  obtain ⟨k, rfl⟩ := pos_of (show 1 ≤ k by omega)
  rw [cl_eq (df := d_target) rfl rfl]
  have hsp := sms (u := t) (s := 35) (l := l) (by omega) (by omega)
  have hb : ∀ w ∈ sp1 35 [] t, w.length ≤ 1000 := fun w hw => by
    have := (sp1_mem hw).1
    simp only [List.length_nil] at this
    omega
  unfold targ
  match hs : sp1 35 [] t with
  | [] => exact absurd hs (sp1_ne 35 t [])
  | [a] =>
    dsimp only
    rw [hs] at hsp hb
    have e1 := ro_ (come_to (k := k) (t := a) (l := l) (by omega) (hb a List.mem_cons_self))
    rcases name_D a with h | ⟨d, h⟩
    · rw [h] at e1 ⊢
      simp [d_target, evSs, evS, evE, evT, evL, evO, evC, Res.bind_ok, Res.bind_exc, Res.bind_bad, Res.out_ok, Res.out_exc, Res.out_bad, Out.thn_nx, Out.thn_rt, Out.thn_exc, Out.thn_bk, Out.thn_ct, ret_some, ret_none, idxW, op2W, pk, pkL, op2, eqO, okD, okL, eqD, eqL, cmpI, trW, trD, asgT, setMany, modD, fdivD, mulD, addD, subD, retO, setIW, Out.res, biD, isTy, rcv, unW, mk1, mk2, mk3, mk4, mk5, mt1, mt2, mt3, mt4, asgI, walked, stays_no, List.map_map, Function.comp_def, padN_zero, fnCall_f, startE, isO, isNone, inO, inW, anyD, slD, itms, small62, wipeE, noExc, unStr, frzW, appW, CF_fn, CF_sub, hsp, at_0, e1]
    · rw [h] at e1 ⊢
      simp [d_target, evSs, evS, evE, evT, evL, evO, evC, Res.bind_ok, Res.bind_exc, Res.bind_bad, Res.out_ok, Res.out_exc, Res.out_bad, Out.thn_nx, Out.thn_rt, Out.thn_exc, Out.thn_bk, Out.thn_ct, ret_some, ret_none, idxW, op2W, pk, pkL, op2, eqO, okD, okL, eqD, eqL, cmpI, trW, trD, asgT, setMany, modD, fdivD, mulD, addD, subD, retO, setIW, Out.res, biD, isTy, rcv, unW, mk1, mk2, mk3, mk4, mk5, mt1, mt2, mt3, mt4, asgI, walked, stays_no, List.map_map, Function.comp_def, padN_zero, fnCall_f, startE, isO, isNone, inO, inW, anyD, slD, itms, small62, wipeE, noExc, unStr, frzW, appW, CF_fn, CF_sub, hsp, at_0, e1]
  | [a, b] =>
    dsimp only
    rw [hs] at hsp hb
    have e1 := ro_ (come_to (k := k) (t := a) (l := l) (by omega) (hb a List.mem_cons_self))
    have e2 := ro_ (come_to_part (k := k) (t := b) (l := l) (by omega) (hb b (by simp)))
    rcases name_D a with h | ⟨d, h⟩
    · rw [h] at e1 ⊢
      simp [d_target, evSs, evS, evE, evT, evL, evO, evC, Res.bind_ok, Res.bind_exc, Res.bind_bad, Res.out_ok, Res.out_exc, Res.out_bad, Out.thn_nx, Out.thn_rt, Out.thn_exc, Out.thn_bk, Out.thn_ct, ret_some, ret_none, idxW, op2W, pk, pkL, op2, eqO, okD, okL, eqD, eqL, cmpI, trW, trD, asgT, setMany, modD, fdivD, mulD, addD, subD, retO, setIW, Out.res, biD, isTy, rcv, unW, mk1, mk2, mk3, mk4, mk5, mt1, mt2, mt3, mt4, asgI, walked, stays_no, List.map_map, Function.comp_def, padN_zero, fnCall_f, startE, isO, isNone, inO, inW, anyD, slD, itms, small62, wipeE, noExc, unStr, frzW, appW, CF_fn, CF_sub, hsp, at_0, e1]
    · rw [h] at e1 ⊢
      rcases part_D b with h2 | ⟨p, h2⟩
      · rw [h2] at e2 ⊢
        simp [d_target, evSs, evS, evE, evT, evL, evO, evC, Res.bind_ok, Res.bind_exc, Res.bind_bad, Res.out_ok, Res.out_exc, Res.out_bad, Out.thn_nx, Out.thn_rt, Out.thn_exc, Out.thn_bk, Out.thn_ct, ret_some, ret_none, idxW, op2W, pk, pkL, op2, eqO, okD, okL, eqD, eqL, cmpI, trW, trD, asgT, setMany, modD, fdivD, mulD, addD, subD, retO, setIW, Out.res, biD, isTy, rcv, unW, mk1, mk2, mk3, mk4, mk5, mt1, mt2, mt3, mt4, asgI, walked, stays_no, List.map_map, Function.comp_def, padN_zero, fnCall_f, startE, isO, isNone, inO, inW, anyD, slD, itms, small62, wipeE, noExc, unStr, frzW, appW, CF_fn, CF_sub, hsp, at_0, at_1, e1, e2]
      · rw [h2] at e2 ⊢
        simp [d_target, evSs, evS, evE, evT, evL, evO, evC, Res.bind_ok, Res.bind_exc, Res.bind_bad, Res.out_ok, Res.out_exc, Res.out_bad, Out.thn_nx, Out.thn_rt, Out.thn_exc, Out.thn_bk, Out.thn_ct, ret_some, ret_none, idxW, op2W, pk, pkL, op2, eqO, okD, okL, eqD, eqL, cmpI, trW, trD, asgT, setMany, modD, fdivD, mulD, addD, subD, retO, setIW, Out.res, biD, isTy, rcv, unW, mk1, mk2, mk3, mk4, mk5, mt1, mt2, mt3, mt4, asgI, walked, stays_no, List.map_map, Function.comp_def, padN_zero, fnCall_f, startE, isO, isNone, inO, inW, anyD, slD, itms, small62, wipeE, noExc, unStr, frzW, appW, CF_fn, CF_sub, hsp, at_0, at_1, e1, e2]
  | a :: b :: c :: r =>
    dsimp only
    rw [hs] at hsp hb
    have e1 := ro_ (come_to (k := k) (t := a) (l := l) (by omega) (hb a List.mem_cons_self))
    have hlen : (2 : Int) < ((r.length : Int) + 1 + 1 + 1) := by omega
    rcases name_D a with h | ⟨d, h⟩
    · rw [h] at e1
      simp [d_target, evSs, evS, evE, evT, evL, evO, evC, Res.bind_ok, Res.bind_exc, Res.bind_bad, Res.out_ok, Res.out_exc, Res.out_bad, Out.thn_nx, Out.thn_rt, Out.thn_exc, Out.thn_bk, Out.thn_ct, ret_some, ret_none, idxW, op2W, pk, pkL, op2, eqO, okD, okL, eqD, eqL, cmpI, trW, trD, asgT, setMany, modD, fdivD, mulD, addD, subD, retO, setIW, Out.res, biD, isTy, rcv, unW, mk1, mk2, mk3, mk4, mk5, mt1, mt2, mt3, mt4, asgI, walked, stays_no, List.map_map, Function.comp_def, padN_zero, fnCall_f, startE, isO, isNone, inO, inW, anyD, slD, itms, small62, wipeE, noExc, unStr, frzW, appW, CF_fn, CF_sub, hsp, at_0, e1]
    · rw [h] at e1
      simp [d_target, evSs, evS, evE, evT, evL, evO, evC, Res.bind_ok, Res.bind_exc, Res.bind_bad, Res.out_ok, Res.out_exc, Res.out_bad, Out.thn_nx, Out.thn_rt, Out.thn_exc, Out.thn_bk, Out.thn_ct, ret_some, ret_none, idxW, op2W, pk, pkL, op2, eqO, okD, okL, eqD, eqL, cmpI, trW, trD, asgT, setMany, modD, fdivD, mulD, addD, subD, retO, setIW, Out.res, biD, isTy, rcv, unW, mk1, mk2, mk3, mk4, mk5, mt1, mt2, mt3, mt4, asgI, walked, stays_no, List.map_map, Function.comp_def, padN_zero, fnCall_f, startE, isO, isNone, inO, inW, anyD, slD, itms, small62, wipeE, noExc, unStr, frzW, appW, CF_fn, CF_sub, hsp, at_0, e1, hlen]
theorem onward_none {k : Nat} {t : Tx} {l : Loc} (hk : 5 ≤ k) (hl : t.length ≤ 1000) (h : targ t = .non) : cl k f_onward_text [.d (.str t)] l = .exc 1 .non l := by
  obtain ⟨k, rfl⟩ := pos_of (show 1 ≤ k by omega)
  rw [cl_eq (df := d_onward_text) rfl rfl]
  have e := ro_ (target_ (k := k) (t := t) (l := l) (by omega) hl)
  rw [h] at e
  simp [d_onward_text, evSs, evS, evE, evT, evL, evO, evC, Res.bind_ok, Res.bind_exc, Res.bind_bad, Res.out_ok, Res.out_exc, Res.out_bad, Out.thn_nx, Out.thn_rt, Out.thn_exc, Out.thn_bk, Out.thn_ct, ret_some, ret_none, idxW, op2W, pk, pkL, op2, eqO, okD, okL, eqD, eqL, cmpI, trW, trD, asgT, setMany, modD, fdivD, mulD, addD, subD, retO, setIW, Out.res, biD, isTy, rcv, unW, mk1, mk2, mk3, mk4, mk5, mt1, mt2, mt3, mt4, asgI, walked, stays_no, List.map_map, Function.comp_def, padN_zero, fnCall_f, startE, isO, isNone, inO, inW, anyD, slD, itms, small62, wipeE, noExc, unStr, frzW, appW, CF_fn, CF_sub, e]
theorem onward_some {k : Nat} {t : Tx} {l : Loc} (hk : 5 ≤ k) (hl : t.length ≤ 1000) (h : targ t ≠ .non) : cl k f_onward_text [.d (.str t)] l = .ok (.d (ttxt (targ t))) l := by
  obtain ⟨k, rfl⟩ := pos_of (show 1 ≤ k by omega)
  rw [cl_eq (df := d_onward_text) rfl rfl]
  have e := ro_ (target_ (k := k) (t := t) (l := l) (by omega) hl)
  rcases targ_cases t with h2 | ⟨n, h2, hn⟩ | ⟨n, p, h2, hn, hp⟩
  · exact absurd h2 h
  · rw [h2] at e ⊢
    have e2 : fnCall (CL k) true f_target_text [.d (.tup [.str n, .non])] l = .ok (.d (.str n)) l := by
      refine ro_ ?_
      obtain ⟨k, rfl⟩ := pos_of (show 1 ≤ k by omega)
      show cl _ _ _ _ = _
      rw [cl_eq (df := d_target_text) rfl rfl]
      simp [d_target_text, evSs, evS, evE, evT, evL, evO, evC, Res.bind_ok, Res.bind_exc, Res.bind_bad, Res.out_ok, Res.out_exc, Res.out_bad, Out.thn_nx, Out.thn_rt, Out.thn_exc, Out.thn_bk, Out.thn_ct, ret_some, ret_none, idxW, op2W, pk, pkL, op2, eqO, okD, okL, eqD, eqL, cmpI, trW, trD, asgT, setMany, modD, fdivD, mulD, addD, subD, retO, setIW, Out.res, biD, isTy, rcv, unW, mk1, mk2, mk3, mk4, mk5, mt1, mt2, mt3, mt4, asgI, walked, stays_no, List.map_map, Function.comp_def, padN_zero, fnCall_f, startE, isO, isNone, inO, inW, anyD, slD, itms, small62, wipeE, noExc, unStr, frzW, appW, CF_fn, CF_sub, at_0, at_1]
    simp [d_onward_text, evSs, evS, evE, evT, evL, evO, evC, Res.bind_ok, Res.bind_exc, Res.bind_bad, Res.out_ok, Res.out_exc, Res.out_bad, Out.thn_nx, Out.thn_rt, Out.thn_exc, Out.thn_bk, Out.thn_ct, ret_some, ret_none, idxW, op2W, pk, pkL, op2, eqO, okD, okL, eqD, eqL, cmpI, trW, trD, asgT, setMany, modD, fdivD, mulD, addD, subD, retO, setIW, Out.res, biD, isTy, rcv, unW, mk1, mk2, mk3, mk4, mk5, mt1, mt2, mt3, mt4, asgI, walked, stays_no, List.map_map, Function.comp_def, padN_zero, fnCall_f, startE, isO, isNone, inO, inW, anyD, slD, itms, small62, wipeE, noExc, unStr, frzW, appW, CF_fn, CF_sub, e, e2, ttxt]
  · rw [h2] at e ⊢
    have e2 : fnCall (CL k) true f_target_text [.d (.tup [.str n, .str p])] l = .ok (.d (.str (n ++ 35 :: p))) l := by
      refine ro_ ?_
      obtain ⟨k, rfl⟩ := pos_of (show 1 ≤ k by omega)
      show cl _ _ _ _ = _
      rw [cl_eq (df := d_target_text) rfl rfl]
      have z1 : n.length + 1 ≤ 16777216 := by omega
      have z2 : n.length + 1 + p.length ≤ 16777216 := by omega
      simp [d_target_text, evSs, evS, evE, evT, evL, evO, evC, Res.bind_ok, Res.bind_exc, Res.bind_bad, Res.out_ok, Res.out_exc, Res.out_bad, Out.thn_nx, Out.thn_rt, Out.thn_exc, Out.thn_bk, Out.thn_ct, ret_some, ret_none, idxW, op2W, pk, pkL, op2, eqO, okD, okL, eqD, eqL, cmpI, trW, trD, asgT, setMany, modD, fdivD, mulD, addD, subD, retO, setIW, Out.res, biD, isTy, rcv, unW, mk1, mk2, mk3, mk4, mk5, mt1, mt2, mt3, mt4, asgI, walked, stays_no, List.map_map, Function.comp_def, padN_zero, fnCall_f, startE, isO, isNone, inO, inW, anyD, slD, itms, small62, wipeE, noExc, unStr, frzW, appW, CF_fn, CF_sub, at_0, at_1, z1, z2]
    simp [d_onward_text, evSs, evS, evE, evT, evL, evO, evC, Res.bind_ok, Res.bind_exc, Res.bind_bad, Res.out_ok, Res.out_exc, Res.out_bad, Out.thn_nx, Out.thn_rt, Out.thn_exc, Out.thn_bk, Out.thn_ct, ret_some, ret_none, idxW, op2W, pk, pkL, op2, eqO, okD, okL, eqD, eqL, cmpI, trW, trD, asgT, setMany, modD, fdivD, mulD, addD, subD, retO, setIW, Out.res, biD, isTy, rcv, unW, mk1, mk2, mk3, mk4, mk5, mt1, mt2, mt3, mt4, asgI, walked, stays_no, List.map_map, Function.comp_def, padN_zero, fnCall_f, startE, isO, isNone, inO, inW, anyD, slD, itms, small62, wipeE, noExc, unStr, frzW, appW, CF_fn, CF_sub, e, e2, ttxt]
theorem onward_other {k : Nat} {d : D} {l : Loc} (hk : 5 ≤ k) (h : isTy .str d = some false) : cl k f_onward_text [.d d] l = .exc 1 .non l := by
  obtain ⟨k, rfl⟩ := pos_of (show 1 ≤ k by omega)
  rw [cl_eq (df := d_onward_text) rfl rfl]
  simp [d_onward_text, evSs, evS, evE, evT, evL, startE, asgT, biD, h, pk, trW, trD, op2W, isO, isNone, Out.res]
/-! unescaped -/
theorem drop_cons {t : Tx} {i c : Nat} {r : Tx} (h : t.drop i = c :: r) : i < t.length ∧ atD t (i : Int) = some c ∧ t.drop (i + 1) = r := by
  have h1 : i < t.length := by
    by_cases h1 : i < t.length
    · exact h1
    · rw [List.drop_eq_nil_of_le (by omega)] at h
      cases h
  rw [List.drop_eq_getElem_cons h1] at h
  cases h
  refine ⟨h1, ?_, rfl⟩
  unfold atD L2.atI L2.ixN
  have h2 : (0 : Int) ≤ (i : Int) := by omega
  have h3 : (i : Int) < (t.length : Int) := by omega
  simp [h2, h3, h1]
theorem cut_one {t : Tx} {i : Nat} : cut t (some (i : Int)) (some ((i : Int) + 1)) = (t.drop i).take 1 := by
  have e : ((i : Int) + 1) = ((i + 1 : Nat) : Int) := by omega
  rw [e, cut_amid, List.drop_take]
  congr 1
  omega
theorem cut_at {t : Tx} {i : Nat} : cut t (some ((i : Int) + 1)) (some ((i : Int) + 1 + 1)) = (t.drop (i + 1)).take 1 := by
  have e : ((i : Int) + 1) = ((i + 1 : Nat) : Int) := by omega
  rw [e, cut_one]
theorem un_wh {k : Nat} {l : Loc} {t : Tx} (ht : t.length ≤ 1000) : ∀ (m i n : Nat) (f : Tx) (d : Option W), t.length ≤ i + m → m < n → i + f.length ≤ 2000 → f.length ≤ i →
    match une (t.drop i) with
    | none => whGo (evT (CF k) (.e (.op .lt (.v 2) (.bi .len (.v 0))))) (evSs (CF k) b_unescaped_0) n [some (.d (.str t)), some (.d (.str f)), some (.d (.int (i : Nat))), d] l = .rt (.d .non) l
    | some u => ∃ i' d', whGo (evT (CF k) (.e (.op .lt (.v 2) (.bi .len (.v 0))))) (evSs (CF k) b_unescaped_0) n [some (.d (.str t)), some (.d (.str f)), some (.d (.int (i : Nat))), d] l = .nx [some (.d (.str t)), some (.d (.str (f ++ u))), i', d'] l := by
  intro m
  induction m using Nat.strongRecOn with
  | ind m ih =>
    intro i n f d h1 h2 h3 h4
    have hz : t.length ≤ 16777216 := by omega
    obtain ⟨n, rfl⟩ : ∃ j, n = j + 1 := ⟨n - 1, by omega⟩
    cases hd : t.drop i with
    | nil =>
      have hi : t.length ≤ i := List.drop_eq_nil_iff.mp hd
      have hlt : ¬ ((i : Int) < (t.length : Int)) := by omega
      refine ⟨some (.d (.int (i : Nat))), d, ?_⟩
      rw [wh_false (l1 := l) (by simp [evT, evE, biD, pk, hz, op2W, op2, cmpI, hlt, trW, trD])]
      rw [List.append_nil]
    | cons c r =>
      obtain ⟨hi, hat, hdr⟩ := drop_cons hd
      have hlt : ((i : Int) < (t.length : Int)) := by omega
      have hc : evT (CF k) (.e (.op .lt (.v 2) (.bi .len (.v 0)))) [some (.d (.str t)), some (.d (.str f)), some (.d (.int (i : Nat))), d] l = .ok true l := by
        simp [evT, evE, biD, pk, hz, op2W, op2, cmpI, hlt, trW, trD]
      have hrt : ∀ {ρ : Env}, evSs (CF k) b_unescaped_0 [some (.d (.str t)), some (.d (.str f)), some (.d (.int (i : Nat))), d] l = .rt (.d .non) l → whGo (evT (CF k) (.e (.op .lt (.v 2) (.bi .len (.v 0))))) (evSs (CF k) b_unescaped_0) (n + 1) [some (.d (.str t)), some (.d (.str f)), some (.d (.int (i : Nat))), d] l = .rt (.d .non) l := fun {ρ} hb => by
        show (evT (CF k) _ _ l).out _ _ = _
        rw [hc]
        simp only [Res.out_ok]
        rw [hb]
      unfold une
      by_cases c10 : c = 10
      · subst c10
        rw [if_pos rfl]
        exact hrt (ρ := []) (by simp [b_unescaped_0, evSs, evS, evE, evT, evL, evO, evC, Res.bind_ok, Res.bind_exc, Res.bind_bad, Res.out_ok, Res.out_exc, Res.out_bad, Out.thn_nx, Out.thn_rt, Out.thn_exc, Out.thn_bk, Out.thn_ct, ret_some, ret_none, idxW, op2W, pk, pkL, op2, eqO, okD, okL, cmpI, trW, trD, asgT, setMany, modD, fdivD, mulD, addD, subD, retO, setIW, Out.res, biD, isTy, rcv, unW, mk1, mk2, mk3, mk4, mk5, mt1, mt2, mt3, mt4, asgI, walked, stays_no, List.map_map, Function.comp_def, padN_zero, fnCall_f, startE, isO, isNone, inO, inW, slD, itms, small62, wipeE, noExc, unStr, frzW, appW, CF_fn, CF_sub, any2, eqd_str, hz, hat])
      · rw [if_neg c10]
        have c10b : (c == 10) = false := by simpa using c10
        by_cases c92 : c = 92
        · subst c92
          rw [if_pos rfl]
          cases hr : r with
          | nil =>
            rw [hr] at hdr
            exact hrt (ρ := []) (by simp [b_unescaped_0, evSs, evS, evE, evT, evL, evO, evC, Res.bind_ok, Res.bind_exc, Res.bind_bad, Res.out_ok, Res.out_exc, Res.out_bad, Out.thn_nx, Out.thn_rt, Out.thn_exc, Out.thn_bk, Out.thn_ct, ret_some, ret_none, idxW, op2W, pk, pkL, op2, eqO, okD, okL, cmpI, trW, trD, asgT, setMany, modD, fdivD, mulD, addD, subD, retO, setIW, Out.res, biD, isTy, rcv, unW, mk1, mk2, mk3, mk4, mk5, mt1, mt2, mt3, mt4, asgI, walked, stays_no, List.map_map, Function.comp_def, padN_zero, fnCall_f, startE, isO, isNone, inO, inW, slD, itms, small62, wipeE, noExc, unStr, frzW, appW, CF_fn, CF_sub, any2, eqd_str, hz, hat, cut_at, hdr])
          | cons e r2 =>
            rw [hr] at hdr
            obtain ⟨hi2, hat2, hdr2⟩ := drop_cons hdr
            have hat2' : atD t ((i : Int) + 1) = some e := by
              have : ((i : Int) + 1) = ((i + 1 : Nat) : Int) := by omega
              rw [this]; exact hat2
            dsimp only
            have fz : f.length + 1 ≤ 16777216 := by omega
            by_cases e110 : e = 110
            · subst e110
              rw [if_pos rfl]
              have hb : evSs (CF k) b_unescaped_0 [some (.d (.str t)), some (.d (.str f)), some (.d (.int (i : Nat))), d] l = .nx [some (.d (.str t)), some (.d (.str (f ++ [10]))), some (.d (.int ((i + 2 : Nat) : Int))), some (.d (.str [10]))] l := by
                simp [b_unescaped_0, evSs, evS, evE, evT, evL, evO, evC, Res.bind_ok, Res.bind_exc, Res.bind_bad, Res.out_ok, Res.out_exc, Res.out_bad, Out.thn_nx, Out.thn_rt, Out.thn_exc, Out.thn_bk, Out.thn_ct, ret_some, ret_none, idxW, op2W, pk, pkL, op2, eqO, okD, okL, cmpI, trW, trD, asgT, setMany, modD, fdivD, mulD, addD, subD, retO, setIW, Out.res, biD, isTy, rcv, unW, mk1, mk2, mk3, mk4, mk5, mt1, mt2, mt3, mt4, asgI, walked, stays_no, List.map_map, Function.comp_def, padN_zero, fnCall_f, startE, isO, isNone, inO, inW, slD, itms, small62, wipeE, noExc, unStr, frzW, appW, CF_fn, CF_sub, any2, eqd_str, hz, hat, hat2', cut_at, hdr, fz]
                omega
              rw [wh_true hc hb]
              have := ih (m - 2) (by omega) (i + 2) n (f ++ [10]) (some (.d (.str [10]))) (by omega) (by omega) (by simp; omega) (by simp; omega)
              rw [show t.drop (i + 2) = r2 from hdr2] at this
              cases q : une r2 with
              | none => rw [q] at this; exact this
              | some u =>
                rw [q] at this
                obtain ⟨i', d', e3⟩ := this
                refine ⟨i', d', ?_⟩
                rw [e3, List.append_assoc]
                rfl
            · rw [if_neg e110]
              by_cases e92 : e = 92
              · subst e92
                rw [if_pos rfl]
                have hb : evSs (CF k) b_unescaped_0 [some (.d (.str t)), some (.d (.str f)), some (.d (.int (i : Nat))), d] l = .nx [some (.d (.str t)), some (.d (.str (f ++ [92]))), some (.d (.int ((i + 2 : Nat) : Int))), some (.d (.str [92]))] l := by
                  simp [b_unescaped_0, evSs, evS, evE, evT, evL, evO, evC, Res.bind_ok, Res.bind_exc, Res.bind_bad, Res.out_ok, Res.out_exc, Res.out_bad, Out.thn_nx, Out.thn_rt, Out.thn_exc, Out.thn_bk, Out.thn_ct, ret_some, ret_none, idxW, op2W, pk, pkL, op2, eqO, okD, okL, cmpI, trW, trD, asgT, setMany, modD, fdivD, mulD, addD, subD, retO, setIW, Out.res, biD, isTy, rcv, unW, mk1, mk2, mk3, mk4, mk5, mt1, mt2, mt3, mt4, asgI, walked, stays_no, List.map_map, Function.comp_def, padN_zero, fnCall_f, startE, isO, isNone, inO, inW, slD, itms, small62, wipeE, noExc, unStr, frzW, appW, CF_fn, CF_sub, any2, eqd_str, hz, hat, hat2', cut_at, hdr, fz]
                  omega
                rw [wh_true hc hb]
                have := ih (m - 2) (by omega) (i + 2) n (f ++ [92]) (some (.d (.str [92]))) (by omega) (by omega) (by simp; omega) (by simp; omega)
                rw [show t.drop (i + 2) = r2 from hdr2] at this
                cases q : une r2 with
                | none => rw [q] at this; exact this
                | some u =>
                  rw [q] at this
                  obtain ⟨i', d', e3⟩ := this
                  refine ⟨i', d', ?_⟩
                  rw [e3, List.append_assoc]
                  rfl
              · rw [if_neg e92]
                have b1 : (e == 110) = false := by simpa using e110
                have b2 : (e == 92) = false := by simpa using e92
                have b3 : (110 == e) = false := by simpa using Ne.symm e110
                have b4 : (92 == e) = false := by simpa using Ne.symm e92
                exact hrt (ρ := []) (by simp [b_unescaped_0, evSs, evS, evE, evT, evL, evO, evC, Res.bind_ok, Res.bind_exc, Res.bind_bad, Res.out_ok, Res.out_exc, Res.out_bad, Out.thn_nx, Out.thn_rt, Out.thn_exc, Out.thn_bk, Out.thn_ct, ret_some, ret_none, idxW, op2W, pk, pkL, op2, eqO, okD, okL, cmpI, trW, trD, asgT, setMany, modD, fdivD, mulD, addD, subD, retO, setIW, Out.res, biD, isTy, rcv, unW, mk1, mk2, mk3, mk4, mk5, mt1, mt2, mt3, mt4, asgI, walked, stays_no, List.map_map, Function.comp_def, padN_zero, fnCall_f, startE, isO, isNone, inO, inW, slD, itms, small62, wipeE, noExc, unStr, frzW, appW, CF_fn, CF_sub, any2, eqd_str, hz, hat, cut_at, hdr, Ne.symm e110, Ne.symm e92, e110, e92, b1, b2, b3, b4])
        · rw [if_neg c92]
          have c92b : (c == 92) = false := by simpa using c92
          have fz : f.length + 1 ≤ 16777216 := by omega
          have hb : evSs (CF k) b_unescaped_0 [some (.d (.str t)), some (.d (.str f)), some (.d (.int (i : Nat))), d] l = .nx [some (.d (.str t)), some (.d (.str (f ++ [c]))), some (.d (.int ((i + 1 : Nat) : Int))), some (.d (.str [c]))] l := by
            simp [b_unescaped_0, evSs, evS, evE, evT, evL, evO, evC, Res.bind_ok, Res.bind_exc, Res.bind_bad, Res.out_ok, Res.out_exc, Res.out_bad, Out.thn_nx, Out.thn_rt, Out.thn_exc, Out.thn_bk, Out.thn_ct, ret_some, ret_none, idxW, op2W, pk, pkL, op2, eqO, okD, okL, cmpI, trW, trD, asgT, setMany, modD, fdivD, mulD, addD, subD, retO, setIW, Out.res, biD, isTy, rcv, unW, mk1, mk2, mk3, mk4, mk5, mt1, mt2, mt3, mt4, asgI, walked, stays_no, List.map_map, Function.comp_def, padN_zero, fnCall_f, startE, isO, isNone, inO, inW, slD, itms, small62, wipeE, noExc, unStr, frzW, appW, CF_fn, CF_sub, any2, eqd_str, hz, hat, fz, c10, c92, c10b, c92b]
          rw [wh_true hc hb]
          have := ih (m - 1) (by omega) (i + 1) n (f ++ [c]) (some (.d (.str [c]))) (by omega) (by omega) (by simp; omega) (by simp; omega)
          rw [hdr] at this
          cases q : une r with
          | none => rw [q] at this; exact this
          | some u =>
            rw [q] at this
            obtain ⟨i', d', e3⟩ := this
            refine ⟨i', d', ?_⟩
            rw [e3, List.append_assoc]
            rfl
def uneD (t : Tx) : D := match une t with
  | none => .non
  | some u => .str u
theorem unescaped_ {k : Nat} {t : Tx} {l : Loc} (hk : 1 ≤ k) (ht : t.length ≤ 1000) : cl k f_unescaped [.d (.str t)] l = .ok (.d (uneD t)) l := by
  obtain ⟨k, rfl⟩ := pos_of hk
  rw [cl_eq (df := d_unescaped) rfl rfl]
  have h := un_wh (k := k) (l := l) ht 1000 0 100000 [] none (by omega) (by omega) (by simp) (by simp)
  rw [List.drop_zero] at h
  unfold uneD
  cases q : une t with
  | none =>
    rw [q] at h
    have h' : whGo (evT (CF k) (.e (.op .lt (.v 2) (.bi .len (.v 0))))) (evSs (CF k) b_unescaped_0) 100000 [some (.d (.str t)), some (.d (.str [])), some (.d (.int 0)), none] l = .rt (.d .non) l := h
    simp [d_unescaped, evSs, evS, evE, startE, asgT, h', Out.res]
  | some u =>
    rw [q] at h
    obtain ⟨i', d', h⟩ := h
    have h' : whGo (evT (CF k) (.e (.op .lt (.v 2) (.bi .len (.v 0))))) (evSs (CF k) b_unescaped_0) 100000 [some (.d (.str t)), some (.d (.str [])), some (.d (.int 0)), none] l = .nx [some (.d (.str t)), some (.d (.str u)), i', d'] l := h
    simp [d_unescaped, evSs, evS, evE, startE, asgT, h', Out.res]
end Vx

set_option maxHeartbeats 400000
namespace Vx
open PySem L2
theorem spw {s : Tx} {y : Nat} {l : Loc} (hy : y < 256) (h : s.length ≤ 1000) : smW .split (.d (.str s)) [.d (.str [32, y, 32])] l = .ok (.d (.lst ((TL.spl [32, y, 32] 0 [] s).map .str))) l := by
  have h1 : s.length ≤ 16777214 := by omega
  simp [smW, pk, pkL, smD, h1, hy]
theorem spz {s p w : Tx} (h : s.length ≤ 1000) (hw : w ∈ TL.spl p 0 [] s) : w.length ≤ 1000 := by
  have := spl_mem hw
  simp only [List.length_nil] at this
  omega
theorem parw {s p : Tx} {l : Loc} (hp : p ≠ []) (h : s.length ≤ 1000) : smW .partition (.d (.str s)) [.d (.str p)] l = .ok (.d (.tup (match TL.par p [] s with
    | some (a, b) => [.str a, .str p, .str b]
    | none => [.str s, .str [], .str []]))) l := by
  have h1 : s.length ≤ 16777216 := by omega
  simp only [smW, pk, pkL, smD, Option.bind_some, Option.map_some, hp, h1, if_true, ret_some, ne_eq, not_false_eq_true, and_self]
  all_goals (cases TL.par p [] s <;> rfl)
theorem tab_size (w : Tx) : tabV t_SIZES w = (size w).map D.int := by
  have e : t_SIZES = szs.map fun q => (q.1, D.int q.2) := rfl
  unfold tabV size
  rw [e, List.find?_map]
  have : ((fun q : Tx × D => q.1 == w) ∘ fun q : Tx × Int => (q.1, D.int q.2)) = fun q => q.1 == w := rfl
  rw [this]
  cases szs.find? fun q => q.1 == w <;> rfl
theorem read_write_ {k : Nat} {r : Tx} {l : Loc} (hk : 4 ≤ k) (hl : r.length ≤ 1000) : cl k f_read_write [.d (.str r)] l = .ok (.d (readWrite r)) l := by
  obtain ⟨k, rfl⟩ := pos_of (show 1 ≤ k by omega)
  rw [cl_eq (df := d_read_write) rfl rfl]
  have hp := parw (s := r) (p := [58, 32]) (l := l) (by simp) hl
  unfold readWrite
  cases q : TL.par [58, 32] [] r with
  | none =>
    rw [q] at hp
    dsimp only at hp ⊢
    have e1 := ro_ (come_to (k := k) (t := r) (l := l) (by omega) hl)
    have e2 := ro_ (unescaped_ (k := k) (t := []) (l := l) (by omega) (by simp))
    have e3 : uneD [] = .str [] := rfl
    rw [e3] at e2
    simp [d_read_write, evSs, evS, evE, evT, evL, evO, evC, Res.bind_ok, Res.bind_exc, Res.bind_bad, Res.out_ok, Res.out_exc, Res.out_bad, Out.thn_nx, Out.thn_rt, Out.thn_exc, Out.thn_bk, Out.thn_ct, ret_some, ret_none, idxW, op2W, pk, pkL, op2, eqO, okD, okL, cmpI, trW, trD, asgT, setMany, modD, fdivD, mulD, addD, subD, retO, setIW, Out.res, biD, isTy, rcv, unW, mk1, mk2, mk3, mk4, mk5, mt1, mt2, mt3, mt4, asgI, walked, stays_no, List.map_map, Function.comp_def, padN_zero, fnCall_f, startE, isO, isNone, inO, inW, slD, itms, small62, wipeE, noExc, unStr, frzW, appW, CF_fn, CF_sub, any2, eqd_str, hp, at_0, at_1, at_2, e1, e2]
  | some ab =>
    obtain ⟨a, b⟩ := ab
    rw [q] at hp
    have hlen := par_len q
    simp only [List.length_nil] at hlen
    dsimp only at hp ⊢
    have e1 := ro_ (come_to (k := k) (t := a) (l := l) (by omega) (by omega))
    have e2 := ro_ (unescaped_ (k := k) (t := b) (l := l) (by omega) (by omega))
    rcases name_D a with h | ⟨d, h⟩
    · rw [h] at e1 ⊢
      simp [d_read_write, evSs, evS, evE, evT, evL, evO, evC, Res.bind_ok, Res.bind_exc, Res.bind_bad, Res.out_ok, Res.out_exc, Res.out_bad, Out.thn_nx, Out.thn_rt, Out.thn_exc, Out.thn_bk, Out.thn_ct, ret_some, ret_none, idxW, op2W, pk, pkL, op2, eqO, okD, okL, cmpI, trW, trD, asgT, setMany, modD, fdivD, mulD, addD, subD, retO, setIW, Out.res, biD, isTy, rcv, unW, mk1, mk2, mk3, mk4, mk5, mt1, mt2, mt3, mt4, asgI, walked, stays_no, List.map_map, Function.comp_def, padN_zero, fnCall_f, startE, isO, isNone, inO, inW, slD, itms, small62, wipeE, noExc, unStr, frzW, appW, CF_fn, CF_sub, any2, eqd_str, hp, at_0, at_1, at_2, e1, e2]
    · rw [h] at e1 ⊢
      unfold uneD at e2
      cases hu : une b with
      | none =>
        rw [hu] at e2
        simp [d_read_write, evSs, evS, evE, evT, evL, evO, evC, Res.bind_ok, Res.bind_exc, Res.bind_bad, Res.out_ok, Res.out_exc, Res.out_bad, Out.thn_nx, Out.thn_rt, Out.thn_exc, Out.thn_bk, Out.thn_ct, ret_some, ret_none, idxW, op2W, pk, pkL, op2, eqO, okD, okL, cmpI, trW, trD, asgT, setMany, modD, fdivD, mulD, addD, subD, retO, setIW, Out.res, biD, isTy, rcv, unW, mk1, mk2, mk3, mk4, mk5, mt1, mt2, mt3, mt4, asgI, walked, stays_no, List.map_map, Function.comp_def, padN_zero, fnCall_f, startE, isO, isNone, inO, inW, slD, itms, small62, wipeE, noExc, unStr, frzW, appW, CF_fn, CF_sub, any2, eqd_str, hp, at_0, at_1, at_2, e1, e2]
      | some u =>
        rw [hu] at e2
        have hul := une_len hu
        have hz : u.length ≤ 16777216 := by omega
        dsimp only at e2 ⊢
        by_cases h4 : 400 < u.length
        · have h4' : (400 : Int) < (u.length : Int) := by omega
          rw [if_pos h4]
          simp [d_read_write, evSs, evS, evE, evT, evL, evO, evC, Res.bind_ok, Res.bind_exc, Res.bind_bad, Res.out_ok, Res.out_exc, Res.out_bad, Out.thn_nx, Out.thn_rt, Out.thn_exc, Out.thn_bk, Out.thn_ct, ret_some, ret_none, idxW, op2W, pk, pkL, op2, eqO, okD, okL, cmpI, trW, trD, asgT, setMany, modD, fdivD, mulD, addD, subD, retO, setIW, Out.res, biD, isTy, rcv, unW, mk1, mk2, mk3, mk4, mk5, mt1, mt2, mt3, mt4, asgI, walked, stays_no, List.map_map, Function.comp_def, padN_zero, fnCall_f, startE, isO, isNone, inO, inW, slD, itms, small62, wipeE, noExc, unStr, frzW, appW, CF_fn, CF_sub, any2, eqd_str, hp, at_0, at_1, at_2, e1, e2, hz, h4']
        · have h4' : ¬ (400 : Int) < (u.length : Int) := by omega
          rw [if_neg h4]
          simp [d_read_write, evSs, evS, evE, evT, evL, evO, evC, Res.bind_ok, Res.bind_exc, Res.bind_bad, Res.out_ok, Res.out_exc, Res.out_bad, Out.thn_nx, Out.thn_rt, Out.thn_exc, Out.thn_bk, Out.thn_ct, ret_some, ret_none, idxW, op2W, pk, pkL, op2, eqO, okD, okL, cmpI, trW, trD, asgT, setMany, modD, fdivD, mulD, addD, subD, retO, setIW, Out.res, biD, isTy, rcv, unW, mk1, mk2, mk3, mk4, mk5, mt1, mt2, mt3, mt4, asgI, walked, stays_no, List.map_map, Function.comp_def, padN_zero, fnCall_f, startE, isO, isNone, inO, inW, slD, itms, small62, wipeE, noExc, unStr, frzW, appW, CF_fn, CF_sub, any2, eqd_str, hp, at_0, at_1, at_2, e1, e2, hz, h4']
theorem read_one_ {k : Nat} {w r : Tx} {l : Loc} (hk : 4 ≤ k) (hl : r.length ≤ 1000) : cl k f_read_one [.d (.str w), .d (.str r)] l = .ok (.d (readOne w r)) l := by
  obtain ⟨k, rfl⟩ := pos_of (show 1 ≤ k by omega)
  rw [cl_eq (df := d_read_one) rfl rfl]
  have e1 := ro_ (come_to (k := k) (t := r) (l := l) (by omega) hl)
  unfold readOne
  rcases name_D r with h | ⟨d, h⟩
  · rw [h] at e1 ⊢
    simp [d_read_one, evSs, evS, evE, evT, evL, evO, evC, Res.bind_ok, Res.bind_exc, Res.bind_bad, Res.out_ok, Res.out_exc, Res.out_bad, Out.thn_nx, Out.thn_rt, Out.thn_exc, Out.thn_bk, Out.thn_ct, ret_some, ret_none, idxW, op2W, pk, pkL, op2, eqO, okD, okL, cmpI, trW, trD, asgT, setMany, modD, fdivD, mulD, addD, subD, retO, setIW, Out.res, biD, isTy, rcv, unW, mk1, mk2, mk3, mk4, mk5, mt1, mt2, mt3, mt4, asgI, walked, stays_no, List.map_map, Function.comp_def, padN_zero, fnCall_f, startE, isO, isNone, inO, inW, slD, itms, small62, wipeE, noExc, unStr, frzW, appW, CF_fn, CF_sub, any2, eqd_str, e1]
  · rw [h] at e1 ⊢
    simp [d_read_one, evSs, evS, evE, evT, evL, evO, evC, Res.bind_ok, Res.bind_exc, Res.bind_bad, Res.out_ok, Res.out_exc, Res.out_bad, Out.thn_nx, Out.thn_rt, Out.thn_exc, Out.thn_bk, Out.thn_ct, ret_some, ret_none, idxW, op2W, pk, pkL, op2, eqO, okD, okL, cmpI, trW, trD, asgT, setMany, modD, fdivD, mulD, addD, subD, retO, setIW, Out.res, biD, isTy, rcv, unW, mk1, mk2, mk3, mk4, mk5, mt1, mt2, mt3, mt4, asgI, walked, stays_no, List.map_map, Function.comp_def, padN_zero, fnCall_f, startE, isO, isNone, inO, inW, slD, itms, small62, wipeE, noExc, unStr, frzW, appW, CF_fn, CF_sub, any2, eqd_str, e1]
theorem ne2_int {n : Int} (h : n ≠ 2) : (n == 2) = false := by simpa using h
theorem read_part_ {k : Nat} {r : Tx} {l : Loc} (hk : 4 ≤ k) (hl : r.length ≤ 1000) : cl k f_read_part [.d (.str r)] l = .ok (.d (readPart r)) l := by
  obtain ⟨k, rfl⟩ := pos_of (show 1 ≤ k by omega)
  rw [cl_eq (df := d_read_part) rfl rfl]
  have hp := spw (s := r) (y := 62) (l := l) (by omega) hl
  unfold readPart
  have no : (TL.spl [32, 62, 32] 0 [] r).length ≠ 2 → (evSs (CF k) d_read_part.body (startE d_read_part.nl [W.d (.str r)]) l).res = .ok (.d .non) l := fun hn => by
    have hn' : ((TL.spl [32, 62, 32] 0 [] r).length : Int) ≠ 2 := by omega
    have hnb : (((TL.spl [32, 62, 32] 0 [] r).length : Int) == 2) = false := by rw [beq_eq_false_iff_ne]; exact hn'
    simp [d_read_part, evSs, evS, evE, evT, evL, evO, evC, Res.bind_ok, Res.bind_exc, Res.bind_bad, Res.out_ok, Res.out_exc, Res.out_bad, Out.thn_nx, Out.thn_rt, Out.thn_exc, Out.thn_bk, Out.thn_ct, ret_some, ret_none, idxW, op2W, pk, pkL, op2, eqO, okD, okL, cmpI, trW, trD, asgT, setMany, modD, fdivD, mulD, addD, subD, retO, setIW, Out.res, biD, isTy, rcv, unW, mk1, mk2, mk3, mk4, mk5, mt1, mt2, mt3, mt4, asgI, walked, stays_no, List.map_map, Function.comp_def, padN_zero, fnCall_f, startE, isO, isNone, inO, inW, slD, itms, small62, wipeE, noExc, unStr, frzW, appW, CF_fn, CF_sub, any2, eqd_str, hp, eqD, hn', hnb]
  match hs : TL.spl [32, 62, 32] 0 [] r with
  | [] => exact no (by rw [hs]; simp)
  | [a] => exact no (by rw [hs]; simp)
  | a :: b :: c :: x => exact no (by rw [hs]; simp)
  | [x, z] =>
    dsimp only
    have hx : x.length ≤ 1000 := spz hl (by rw [hs]; simp)
    have hz : z.length ≤ 1000 := spz hl (by rw [hs]; simp)
    rw [hs] at hp
    have hq := spw (s := x) (y := 35) (l := l) (by omega) hx
    have no2 : (TL.spl [32, 35, 32] 0 [] x).length ≠ 2 → (evSs (CF k) d_read_part.body (startE d_read_part.nl [W.d (.str r)]) l).res = .ok (.d .non) l := fun hn => by
      have hn' : ((TL.spl [32, 35, 32] 0 [] x).length : Int) ≠ 2 := by omega
      have hnb : (((TL.spl [32, 35, 32] 0 [] x).length : Int) == 2) = false := by rw [beq_eq_false_iff_ne]; exact hn'
      simp [d_read_part, evSs, evS, evE, evT, evL, evO, evC, Res.bind_ok, Res.bind_exc, Res.bind_bad, Res.out_ok, Res.out_exc, Res.out_bad, Out.thn_nx, Out.thn_rt, Out.thn_exc, Out.thn_bk, Out.thn_ct, ret_some, ret_none, idxW, op2W, pk, pkL, op2, eqO, okD, okL, cmpI, trW, trD, asgT, setMany, modD, fdivD, mulD, addD, subD, retO, setIW, Out.res, biD, isTy, rcv, unW, mk1, mk2, mk3, mk4, mk5, mt1, mt2, mt3, mt4, asgI, walked, stays_no, List.map_map, Function.comp_def, padN_zero, fnCall_f, startE, isO, isNone, inO, inW, slD, itms, small62, wipeE, noExc, unStr, frzW, appW, CF_fn, CF_sub, any2, eqd_str, hp, hq, at_0, at_1, eqD, hn', hnb]
    match hs2 : TL.spl [32, 35, 32] 0 [] x with
    | [] => exact no2 (by rw [hs2]; simp)
    | [a] => exact no2 (by rw [hs2]; simp)
    | a :: b :: c :: x => exact no2 (by rw [hs2]; simp)
    | [h, p] =>
      dsimp only
      have hh : h.length ≤ 1000 := spz hx (by rw [hs2]; simp)
      have hpp : p.length ≤ 1000 := spz hx (by rw [hs2]; simp)
      rw [hs2] at hq
      have e1 := ro_ (come_to (k := k) (t := h) (l := l) (by omega) hh)
      have e2 := ro_ (come_to_part (k := k) (t := p) (l := l) (by omega) hpp)
      have e3 := ro_ (come_to (k := k) (t := z) (l := l) (by omega) hz)
      rcases name_D h with q1 | ⟨d1, q1⟩ <;> rcases part_D p with q2 | ⟨d2, q2⟩ <;> rcases name_D z with q3 | ⟨d3, q3⟩
      all_goals
        rw [q1] at e1 ⊢
        rw [q2] at e2 ⊢
        rw [q3] at e3 ⊢
        simp [d_read_part, evSs, evS, evE, evT, evL, evO, evC, Res.bind_ok, Res.bind_exc, Res.bind_bad, Res.out_ok, Res.out_exc, Res.out_bad, Out.thn_nx, Out.thn_rt, Out.thn_exc, Out.thn_bk, Out.thn_ct, ret_some, ret_none, idxW, op2W, pk, pkL, op2, eqO, okD, okL, cmpI, trW, trD, asgT, setMany, modD, fdivD, mulD, addD, subD, retO, setIW, Out.res, biD, isTy, rcv, unW, mk1, mk2, mk3, mk4, mk5, mt1, mt2, mt3, mt4, asgI, walked, stays_no, List.map_map, Function.comp_def, padN_zero, fnCall_f, startE, isO, isNone, inO, inW, slD, itms, small62, wipeE, noExc, unStr, frzW, appW, CF_fn, CF_sub, any2, eqd_str, hp, hq, at_0, at_1, at_2, e1, e2, e3, eqD, anyD]
theorem read_two_ {k : Nat} {w r : Tx} {l : Loc} (hk : 6 ≤ k) (hl : r.length ≤ 1000) : cl k f_read_two [.d (.str w), .d (.str r)] l = .ok (.d (readTwo w r)) l := by
  obtain ⟨k, rfl⟩ := pos_of (show 1 ≤ k by omega)
  rw [cl_eq (df := d_read_two) rfl rfl]
  have hp := spw (s := r) (y := 62) (l := l) (by omega) hl
  unfold readTwo
  have no : (TL.spl [32, 62, 32] 0 [] r).length ≠ 2 → (evSs (CF k) d_read_two.body (startE d_read_two.nl [W.d (.str w), W.d (.str r)]) l).res = .ok (.d .non) l := fun hn => by
    have hn' : ((TL.spl [32, 62, 32] 0 [] r).length : Int) ≠ 2 := by omega
    have hnb : (((TL.spl [32, 62, 32] 0 [] r).length : Int) == 2) = false := by rw [beq_eq_false_iff_ne]; exact hn'
    simp [d_read_two, evSs, evS, evE, evT, evL, evO, evC, Res.bind_ok, Res.bind_exc, Res.bind_bad, Res.out_ok, Res.out_exc, Res.out_bad, Out.thn_nx, Out.thn_rt, Out.thn_exc, Out.thn_bk, Out.thn_ct, ret_some, ret_none, idxW, op2W, pk, pkL, op2, eqO, okD, okL, cmpI, trW, trD, asgT, setMany, modD, fdivD, mulD, addD, subD, retO, setIW, Out.res, biD, isTy, rcv, unW, mk1, mk2, mk3, mk4, mk5, mt1, mt2, mt3, mt4, asgI, walked, stays_no, List.map_map, Function.comp_def, padN_zero, fnCall_f, startE, isO, isNone, inO, inW, slD, itms, small62, wipeE, noExc, unStr, frzW, appW, CF_fn, CF_sub, any2, eqd_str, hp, eqD, hn', hnb]
  match hs : TL.spl [32, 62, 32] 0 [] r with
  | [] => exact no (by rw [hs]; simp)
  | [a] => exact no (by rw [hs]; simp)
  | a :: b :: c :: x => exact no (by rw [hs]; simp)
  | [x, z] =>
    dsimp only
    have hx : x.length ≤ 1000 := spz hl (by rw [hs]; simp)
    have hz : z.length ≤ 1000 := spz hl (by rw [hs]; simp)
    rw [hs] at hp
    have e1 := ro_ (come_to (k := k) (t := x) (l := l) (by omega) hx)
    have e3 := ro_ (come_to (k := k) (t := z) (l := l) (by omega) hz)
    have e4 := ro_ (target_ (k := k) (t := z) (l := l) (by omega) hz)
    unfold other
    by_cases hw : w = WSIGN
    · subst hw
      rw [if_pos rfl]
      rcases targ_cases z with h2 | ⟨n, h2, hn⟩ | ⟨n, p, h2, hn, hp2⟩
      · rw [h2] at e4 ⊢
        dsimp only
        rcases name_D x with q1 | ⟨d1, q1⟩ <;> rcases name_D z with q3 | ⟨d3, q3⟩
        all_goals
          rw [q1] at e1 ⊢
          rw [q3] at e3 ⊢
          simp [d_read_two, evSs, evS, evE, evT, evL, evO, evC, Res.bind_ok, Res.bind_exc, Res.bind_bad, Res.out_ok, Res.out_exc, Res.out_bad, Out.thn_nx, Out.thn_rt, Out.thn_exc, Out.thn_bk, Out.thn_ct, ret_some, ret_none, idxW, op2W, pk, pkL, op2, eqO, okD, okL, cmpI, trW, trD, asgT, setMany, modD, fdivD, mulD, addD, subD, retO, setIW, Out.res, biD, isTy, rcv, unW, mk1, mk2, mk3, mk4, mk5, mt1, mt2, mt3, mt4, asgI, walked, stays_no, List.map_map, Function.comp_def, padN_zero, fnCall_f, startE, isO, isNone, inO, inW, slD, itms, small62, wipeE, noExc, unStr, frzW, appW, CF_fn, CF_sub, any2, eqd_str, hp, at_0, at_1, e1, e3, e4, eqD]
      · have e5 := ro_ (onward_some (k := k) (t := z) (l := l) (by omega) hz (by rw [h2]; simp))
        rw [h2] at e4 e5 ⊢
        dsimp only
        unfold ttxt at e5 ⊢
        rcases name_D x with q1 | ⟨d1, q1⟩ <;> rcases name_D z with q3 | ⟨d3, q3⟩
        all_goals
          rw [q1] at e1 ⊢
          rw [q3] at e3
          simp [d_read_two, evSs, evS, evE, evT, evL, evO, evC, Res.bind_ok, Res.bind_exc, Res.bind_bad, Res.out_ok, Res.out_exc, Res.out_bad, Out.thn_nx, Out.thn_rt, Out.thn_exc, Out.thn_bk, Out.thn_ct, ret_some, ret_none, idxW, op2W, pk, pkL, op2, eqO, okD, okL, cmpI, trW, trD, asgT, setMany, modD, fdivD, mulD, addD, subD, retO, setIW, Out.res, biD, isTy, rcv, unW, mk1, mk2, mk3, mk4, mk5, mt1, mt2, mt3, mt4, asgI, walked, stays_no, List.map_map, Function.comp_def, padN_zero, fnCall_f, startE, isO, isNone, inO, inW, slD, itms, small62, wipeE, noExc, unStr, frzW, appW, CF_fn, CF_sub, any2, eqd_str, hp, at_0, at_1, e1, e3, e4, e5, eqD]
      · have e5 := ro_ (onward_some (k := k) (t := z) (l := l) (by omega) hz (by rw [h2]; simp))
        rw [h2] at e4 e5 ⊢
        dsimp only
        unfold ttxt at e5 ⊢
        rcases name_D x with q1 | ⟨d1, q1⟩ <;> rcases name_D z with q3 | ⟨d3, q3⟩
        all_goals
          rw [q1] at e1 ⊢
          rw [q3] at e3
          simp [d_read_two, evSs, evS, evE, evT, evL, evO, evC, Res.bind_ok, Res.bind_exc, Res.bind_bad, Res.out_ok, Res.out_exc, Res.out_bad, Out.thn_nx, Out.thn_rt, Out.thn_exc, Out.thn_bk, Out.thn_ct, ret_some, ret_none, idxW, op2W, pk, pkL, op2, eqO, okD, okL, cmpI, trW, trD, asgT, setMany, modD, fdivD, mulD, addD, subD, retO, setIW, Out.res, biD, isTy, rcv, unW, mk1, mk2, mk3, mk4, mk5, mt1, mt2, mt3, mt4, asgI, walked, stays_no, List.map_map, Function.comp_def, padN_zero, fnCall_f, startE, isO, isNone, inO, inW, slD, itms, small62, wipeE, noExc, unStr, frzW, appW, CF_fn, CF_sub, any2, eqd_str, hp, at_0, at_1, e1, e3, e4, e5, eqD]
    · rw [if_neg hw]
      have hwb : (w == WSIGN) = false := by simpa using hw
      rcases name_D x with q1 | ⟨d1, q1⟩ <;> rcases name_D z with q3 | ⟨d3, q3⟩
      all_goals
        rw [q1] at e1 ⊢
        rw [q3] at e3 ⊢
        simp [d_read_two, evSs, evS, evE, evT, evL, evO, evC, Res.bind_ok, Res.bind_exc, Res.bind_bad, Res.out_ok, Res.out_exc, Res.out_bad, Out.thn_nx, Out.thn_rt, Out.thn_exc, Out.thn_bk, Out.thn_ct, ret_some, ret_none, idxW, op2W, pk, pkL, op2, eqO, okD, okL, cmpI, trW, trD, asgT, setMany, modD, fdivD, mulD, addD, subD, retO, setIW, Out.res, biD, isTy, rcv, unW, mk1, mk2, mk3, mk4, mk5, mt1, mt2, mt3, mt4, asgI, walked, stays_no, List.map_map, Function.comp_def, padN_zero, fnCall_f, startE, isO, isNone, inO, inW, slD, itms, small62, wipeE, noExc, unStr, frzW, appW, CF_fn, CF_sub, any2, eqd_str, hp, at_0, at_1, e1, e3, hw, hwb, eqD]
end Vx

set_option maxHeartbeats 400000
namespace Vx
open PySem L2
theorem deed_of_ {k : Nat} {r : Tx} {l : Loc} (hk : 7 ≤ k) (hl : r.length ≤ 1000) : cl k f_deed_of [.d (.str r)] l = .ok (.d (deedD r)) l := by
  obtain ⟨k, rfl⟩ := pos_of (show 1 ≤ k by omega)
  rw [cl_eq (df := d_deed_of) rfl rfl]
  unfold deedD
  by_cases h0 : r = WSTR
  · rw [if_pos h0]
    subst h0
    simp [d_deed_of, evSs, evS, evE, evT, evL, evO, evC, Res.bind_ok, Res.bind_exc, Res.bind_bad, Res.out_ok, Res.out_exc, Res.out_bad, Out.thn_nx, Out.thn_rt, Out.thn_exc, Out.thn_bk, Out.thn_ct, ret_some, ret_none, idxW, op2W, pk, pkL, op2, eqO, okD, okL, cmpI, trW, trD, asgT, setMany, modD, fdivD, mulD, addD, subD, retO, setIW, Out.res, biD, isTy, rcv, unW, mk1, mk2, mk3, mk4, mk5, mt1, mt2, mt3, mt4, asgI, walked, stays_no, List.map_map, Function.comp_def, padN_zero, fnCall_f, startE, isO, isNone, inO, inW, slD, itms, small62, wipeE, noExc, unStr, frzW, appW, CF_fn, CF_sub, any2, eqd_str]
  · rw [if_neg h0]
    have h0b : (r == WSTR) = false := by simpa using h0
    have hp := parw (s := r) (p := [32]) (l := l) (by simp) hl
    cases q : TL.par [32] [] r with
    | none =>
      rw [q] at hp
      dsimp only at hp ⊢
      simp [d_deed_of, evSs, evS, evE, evT, evL, evO, evC, Res.bind_ok, Res.bind_exc, Res.bind_bad, Res.out_ok, Res.out_exc, Res.out_bad, Out.thn_nx, Out.thn_rt, Out.thn_exc, Out.thn_bk, Out.thn_ct, ret_some, ret_none, idxW, op2W, pk, pkL, op2, eqO, okD, okL, cmpI, trW, trD, asgT, setMany, modD, fdivD, mulD, addD, subD, retO, setIW, Out.res, biD, isTy, rcv, unW, mk1, mk2, mk3, mk4, mk5, mt1, mt2, mt3, mt4, asgI, walked, stays_no, List.map_map, Function.comp_def, padN_zero, fnCall_f, startE, isO, isNone, inO, inW, slD, itms, small62, wipeE, noExc, unStr, frzW, appW, CF_fn, CF_sub, any2, eqd_str, h0b, h0, hp]
    | some wr =>
      obtain ⟨w, rest⟩ := wr
      rw [q] at hp
      have hlen := par_len q
      simp only [List.length_nil] at hlen
      dsimp only at hp ⊢
      have hs := tab_size w
      have hrl : rest.length ≤ 1000 := by omega
      have e1 := ro_ (read_write_ (k := k) (r := rest) (l := l) (by omega) hrl)
      have e2 := ro_ (read_part_ (k := k) (r := rest) (l := l) (by omega) hrl)
      have e3 := ro_ (read_one_ (k := k) (w := w) (r := rest) (l := l) (by omega) hrl)
      have e4 := ro_ (read_two_ (k := k) (w := w) (r := rest) (l := l) (by omega) hrl)
      cases q2 : size w with
      | none =>
        rw [q2] at hs
        simp [d_deed_of, evSs, evS, evE, evT, evL, evO, evC, Res.bind_ok, Res.bind_exc, Res.bind_bad, Res.out_ok, Res.out_exc, Res.out_bad, Out.thn_nx, Out.thn_rt, Out.thn_exc, Out.thn_bk, Out.thn_ct, ret_some, ret_none, idxW, op2W, pk, pkL, op2, eqO, okD, okL, cmpI, trW, trD, asgT, setMany, modD, fdivD, mulD, addD, subD, retO, setIW, Out.res, biD, isTy, rcv, unW, mk1, mk2, mk3, mk4, mk5, mt1, mt2, mt3, mt4, asgI, walked, stays_no, List.map_map, Function.comp_def, padN_zero, fnCall_f, startE, isO, isNone, inO, inW, slD, itms, small62, wipeE, noExc, unStr, frzW, appW, CF_fn, CF_sub, any2, eqd_str, h0b, h0, hp, tgetW, hs, eqD]
      | some n =>
        rw [q2] at hs
        simp only [Option.getD_some, Option.map_some] at hs ⊢
        by_cases n1 : n = 1
        · subst n1
          simp [d_deed_of, evSs, evS, evE, evT, evL, evO, evC, Res.bind_ok, Res.bind_exc, Res.bind_bad, Res.out_ok, Res.out_exc, Res.out_bad, Out.thn_nx, Out.thn_rt, Out.thn_exc, Out.thn_bk, Out.thn_ct, ret_some, ret_none, idxW, op2W, pk, pkL, op2, eqO, okD, okL, cmpI, trW, trD, asgT, setMany, modD, fdivD, mulD, addD, subD, retO, setIW, Out.res, biD, isTy, rcv, unW, mk1, mk2, mk3, mk4, mk5, mt1, mt2, mt3, mt4, asgI, walked, stays_no, List.map_map, Function.comp_def, padN_zero, fnCall_f, startE, isO, isNone, inO, inW, slD, itms, small62, wipeE, noExc, unStr, frzW, appW, CF_fn, CF_sub, any2, eqd_str, h0b, h0, hp, tgetW, hs, eqD]
        · have n1b : (n == 1) = false := by simpa using n1
          rw [if_neg n1]
          by_cases hw : w = WWRITE
          · rw [if_pos hw]
            subst hw
            simp [d_deed_of, evSs, evS, evE, evT, evL, evO, evC, Res.bind_ok, Res.bind_exc, Res.bind_bad, Res.out_ok, Res.out_exc, Res.out_bad, Out.thn_nx, Out.thn_rt, Out.thn_exc, Out.thn_bk, Out.thn_ct, ret_some, ret_none, idxW, op2W, pk, pkL, op2, eqO, okD, okL, cmpI, trW, trD, asgT, setMany, modD, fdivD, mulD, addD, subD, retO, setIW, Out.res, biD, isTy, rcv, unW, mk1, mk2, mk3, mk4, mk5, mt1, mt2, mt3, mt4, asgI, walked, stays_no, List.map_map, Function.comp_def, padN_zero, fnCall_f, startE, isO, isNone, inO, inW, slD, itms, small62, wipeE, noExc, unStr, frzW, appW, CF_fn, CF_sub, any2, eqd_str, h0b, h0, hp, tgetW, hs, eqD, n1, n1b, e1]
          · have hwb : (w == WWRITE) = false := by simpa using hw
            rw [if_neg hw]
            by_cases hw2 : w = WPART
            · rw [if_pos hw2]
              subst hw2
              simp [d_deed_of, evSs, evS, evE, evT, evL, evO, evC, Res.bind_ok, Res.bind_exc, Res.bind_bad, Res.out_ok, Res.out_exc, Res.out_bad, Out.thn_nx, Out.thn_rt, Out.thn_exc, Out.thn_bk, Out.thn_ct, ret_some, ret_none, idxW, op2W, pk, pkL, op2, eqO, okD, okL, cmpI, trW, trD, asgT, setMany, modD, fdivD, mulD, addD, subD, retO, setIW, Out.res, biD, isTy, rcv, unW, mk1, mk2, mk3, mk4, mk5, mt1, mt2, mt3, mt4, asgI, walked, stays_no, List.map_map, Function.comp_def, padN_zero, fnCall_f, startE, isO, isNone, inO, inW, slD, itms, small62, wipeE, noExc, unStr, frzW, appW, CF_fn, CF_sub, any2, eqd_str, h0b, h0, hp, tgetW, hs, eqD, n1, n1b, e2]
            · have hw2b : (w == WPART) = false := by simpa using hw2
              rw [if_neg hw2]
              by_cases n2 : n = 2
              · subst n2
                simp [d_deed_of, evSs, evS, evE, evT, evL, evO, evC, Res.bind_ok, Res.bind_exc, Res.bind_bad, Res.out_ok, Res.out_exc, Res.out_bad, Out.thn_nx, Out.thn_rt, Out.thn_exc, Out.thn_bk, Out.thn_ct, ret_some, ret_none, idxW, op2W, pk, pkL, op2, eqO, okD, okL, cmpI, trW, trD, asgT, setMany, modD, fdivD, mulD, addD, subD, retO, setIW, Out.res, biD, isTy, rcv, unW, mk1, mk2, mk3, mk4, mk5, mt1, mt2, mt3, mt4, asgI, walked, stays_no, List.map_map, Function.comp_def, padN_zero, fnCall_f, startE, isO, isNone, inO, inW, slD, itms, small62, wipeE, noExc, unStr, frzW, appW, CF_fn, CF_sub, any2, eqd_str, h0b, h0, hp, tgetW, tixW, hs, eqD, hw, hwb, hw2, hw2b, e3]
              · have n2b : (n == 2) = false := by simpa using n2
                have n2' : ¬ (some n = some (2 : Int)) := by simpa using n2
                rw [if_neg n2']
                simp [d_deed_of, evSs, evS, evE, evT, evL, evO, evC, Res.bind_ok, Res.bind_exc, Res.bind_bad, Res.out_ok, Res.out_exc, Res.out_bad, Out.thn_nx, Out.thn_rt, Out.thn_exc, Out.thn_bk, Out.thn_ct, ret_some, ret_none, idxW, op2W, pk, pkL, op2, eqO, okD, okL, cmpI, trW, trD, asgT, setMany, modD, fdivD, mulD, addD, subD, retO, setIW, Out.res, biD, isTy, rcv, unW, mk1, mk2, mk3, mk4, mk5, mt1, mt2, mt3, mt4, asgI, walked, stays_no, List.map_map, Function.comp_def, padN_zero, fnCall_f, startE, isO, isNone, inO, inW, slD, itms, small62, wipeE, noExc, unStr, frzW, appW, CF_fn, CF_sub, any2, eqd_str, h0b, h0, hp, tgetW, tixW, hs, eqD, n1, n1b, n2, n2b, hw, hwb, hw2, hw2b, e4]
theorem read_deed_none {k : Nat} {r : Tx} {l : Loc} (hk : 8 ≤ k) (hl : r.length ≤ 1000) (h : deedD r = .non) : ∃ c, cl k f_read_deed [.d (.str r)] l = .exc c .non l := by
  obtain ⟨k, rfl⟩ := pos_of (show 1 ≤ k by omega)
  rw [cl_eq (df := d_read_deed) rfl rfl]
  have e := ro_ (deed_of_ (k := k) (r := r) (l := l) (by omega) hl)
  rw [h] at e
  exact ⟨_, by simp [d_read_deed, evSs, evS, evE, evT, evL, evO, evC, Res.bind_ok, Res.bind_exc, Res.bind_bad, Res.out_ok, Res.out_exc, Res.out_bad, Out.thn_nx, Out.thn_rt, Out.thn_exc, Out.thn_bk, Out.thn_ct, ret_some, ret_none, idxW, op2W, pk, pkL, op2, eqO, okD, okL, cmpI, trW, trD, asgT, setMany, modD, fdivD, mulD, addD, subD, retO, setIW, Out.res, biD, isTy, rcv, unW, mk1, mk2, mk3, mk4, mk5, mt1, mt2, mt3, mt4, asgI, walked, stays_no, List.map_map, Function.comp_def, padN_zero, fnCall_f, startE, isO, isNone, inO, inW, slD, itms, small62, wipeE, noExc, unStr, frzW, appW, CF_fn, CF_sub, any2, eqd_str, e]; rfl⟩
theorem read_deed_some {k : Nat} {r : Tx} {l : Loc} (hk : 8 ≤ k) (hl : r.length ≤ 1000) (h : deedD r ≠ .non) : cl k f_read_deed [.d (.str r)] l = .ok (.d (deedD r)) l := by
  obtain ⟨k, rfl⟩ := pos_of (show 1 ≤ k by omega)
  rw [cl_eq (df := d_read_deed) rfl rfl]
  have e := ro_ (deed_of_ (k := k) (r := r) (l := l) (by omega) hl)
  have hn : isNone (.d (deedD r)) = false := by
    cases q : deedD r <;> first | rfl | (exact absurd q h)
  have hi : isO (.d (deedD r)) (.d .non) = some false := by
    show some (isNone _) = _
    rw [hn]
  simp [d_read_deed, evSs, evS, evE, evT, evL, startE, asgT, e, op2W, hi, trW, pk, trD, Out.res]
/-! the row of a deed -/
def e1c (c : Nat) : Tx := if c = 10 then [92, 110] else if c = 92 then [92, 92] else [c]
def esc (t : Tx) : Tx := t.flatMap e1c
theorem repl_one (y : Nat) (z : Tx) : ∀ t : Tx, PySem.StrLaws.replL [y] z t = t.flatMap fun c => if c = y then z else [c]
  | [] => by rw [PySem.StrLaws.replL_nil]; rfl
  | c :: r => by
    have e : PySem.StrLaws.replL [y] z (c :: r) = if (c :: r).take 1 = [y] then z ++ PySem.StrLaws.replS [y] z 0 r else c :: PySem.StrLaws.replS [y] z 0 r := by
      unfold PySem.StrLaws.replL
      rw [PySem.StrLaws.replS]
      rfl
    rw [e, List.flatMap_cons]
    have ih := repl_one y z r
    unfold PySem.StrLaws.replL at ih
    rw [ih]
    by_cases h : c = y
    · subst h
      simp
    · simp [h]
theorem esc_eq (t : Tx) : PySem.StrLaws.replL [10] [92, 110] (PySem.StrLaws.replL [92] [92, 92] t) = esc t := by
  rw [repl_one, repl_one]
  unfold esc
  rw [List.flatMap_assoc]
  congr 1
  funext c
  unfold e1c
  by_cases h : c = 92
  · subst h; rfl
  · by_cases h2 : c = 10
    · subst h2; rfl
    · simp [h, h2]
theorem esc_len (t : Tx) : (esc t).length ≤ 2 * t.length := by
  unfold esc
  induction t with
  | nil => simp
  | cons c r ih =>
    rw [List.flatMap_cons, List.length_append, List.length_cons]
    have : (e1c c).length ≤ 2 := by
      unfold e1c
      split
      · simp
      · split <;> simp
    omega
theorem repl_len1 (t : Tx) : (PySem.StrLaws.replL [92] [92, 92] t).length ≤ 2 * t.length := by
  rw [repl_one]
  induction t with
  | nil => simp
  | cons c r ih =>
    rw [List.flatMap_cons, List.length_append, List.length_cons]
    have : (if c = 92 then [92, 92] else [c]).length ≤ 2 := by split <;> simp
    omega
theorem une_esc : ∀ t : Tx, une (esc t) = some t
  | [] => rfl
  | c :: r => by
    have ih := une_esc r
    unfold esc at ih ⊢
    rw [List.flatMap_cons]
    unfold e1c
    by_cases h : c = 10
    · subst h
      rw [if_pos rfl]
      show une (92 :: 110 :: r.flatMap e1c) = _
      unfold une
      simp only [if_true]
      rw [if_neg (by decide), ih]
      rfl
    · rw [if_neg h]
      by_cases h2 : c = 92
      · subst h2
        rw [if_pos rfl]
        show une (92 :: 92 :: r.flatMap e1c) = _
        unfold une
        simp only [if_true]
        rw [if_neg (by decide), if_neg (by decide), ih]
        rfl
      · rw [if_neg h2]
        show une (c :: r.flatMap e1c) = _
        unfold une
        rw [if_neg h, if_neg h2, ih]
        rfl
end Vx

set_option maxHeartbeats 400000
namespace Vx
open PySem L2
/-- a written name, a part's name, a way on -/
def Wn (a a' : Tx) : Prop := nameD a' = .str a ∧ a'.length ≤ 60
def Wp (p p' : Tx) : Prop := partD p' = .str p ∧ p'.length ≤ 60
def Wt (b b' : Tx) : Prop := targ b' ≠ .non ∧ ttxt (targ b') = .str b ∧ b'.length ≤ 120 ∧ b.length ≤ 40
theorem name_wl {a a' : Tx} (h : Wn a a') : a.length ≤ 24 := by
  rcases name_cases a' with e | ⟨d, e, h2, _⟩
  · rw [h.1] at e; cases e
  · rw [h.1] at e; cases e; exact h2
theorem part_wl {a a' : Tx} (h : Wp a a') : a.length ≤ 12 := by
  rcases partD_cases a' with e | ⟨d, e, _, h2⟩
  · rw [h.1] at e; cases e
  · rw [h.1] at e; cases e; exact h2
/-! the deeds -/
inductive Dd where
  | wr (a t : Tx) | tw (w a b : Tx) | pt (a p b : Tx) | on (w a : Tx) | st
def Dd.D : Dd → Vx.D
  | .wr a t => .tup [.str WWRITE, .str a, .str t]
  | .tw w a b => .tup [.str w, .str a, .str b]
  | .pt a p b => .tup [.str WPART, .str a, .str p, .str b]
  | .on w a => .tup [.str w, .str a]
  | .st => .tup [.str WSTR]
def Dd.row : Dd → Tx
  | .wr a t => [119, 114, 105, 116, 101, 32] ++ a ++ [58, 32] ++ esc t
  | .tw w a b => w ++ [32] ++ a ++ [32, 62, 32] ++ b
  | .pt a p b => [112, 97, 114, 116, 32] ++ a ++ [32, 35, 32] ++ p ++ [32, 62, 32] ++ b
  | .on w a => w ++ [32] ++ a
  | .st => WSTR
end Vx

set_option maxHeartbeats 400000
namespace Vx
open PySem L2
theorem check_ok {k : Nat} {w : Tx} {as : List D} {l : Loc} (hk : 1 ≤ k) (hs : size w = some ((as.length : Int) + 1)) (ho : okL 11 as = true) : fnCall (CL k) true f_check_deed [.d (.tup (.str w :: as))] l = .ok (.d .non) l := by
  obtain ⟨k, rfl⟩ := pos_of hk
  refine ro_ ?_
  show cl _ _ _ _ = _
  rw [cl_eq (df := d_check_deed) rfl rfl]
  have ht := tab_size w
  rw [hs] at ht
  have o1 : okD 12 (.tup (.str w :: as)) = true := by
    show (okD 11 (.str w) && okL 11 as) = true
    rw [ho]; rfl
  have h1 : okL 11 (.str w :: as) = true := o1
  have h2 : okL 11 [] = true := rfl
  have h3 : eqL (.str w :: as) [] = false := rfl
  have ht' : tgetW t_SIZES (.d .non) (.d (.str w)) = some (.d (.int ((as.length : Int) + 1))) := by
    simp only [tgetW, ht, Option.map_some]
  simp [d_check_deed, evSs, evS, evE, evT, evL, startE, asgT, biD, isTy, pk, trW, trD, op2W, op2, h1, h2, h3, idxW, at_0, ht', eqO, okD, eqD, Out.res, mkTup, unW]
/-- what is no name, no part's name, no way on -/
def BadN (d : D) : Prop := (∃ t : Tx, d = .str t ∧ t.length ≤ 1000 ∧ nameD t = .non) ∨ isTy .str d = some false
def BadP (d : D) : Prop := (∃ t : Tx, d = .str t ∧ t.length ≤ 1000 ∧ partD t = .non) ∨ isTy .str d = some false
def BadT (d : D) : Prop := (∃ t : Tx, d = .str t ∧ t.length ≤ 1000 ∧ targ t = .non) ∨ isTy .str d = some false
theorem name_bad {k : Nat} {d : D} {l : Loc} (hk : 4 ≤ k) (h : BadN d) : fnCall (CL k) true f_name_of [.d d] l = .exc 1 .non l := by
  rcases h with ⟨t, rfl, h1, h2⟩ | h
  · exact rox_ (name_none hk h1 h2)
  · refine rox_ ?_
    obtain ⟨k, rfl⟩ := pos_of (show 1 ≤ k by omega)
    show cl _ _ _ _ = _
    rw [cl_eq (df := d_name_of) rfl rfl]
    have e0 : fnCall (CL k) true f_come_to [.d d] l = .ok (.d .non) l := by
      refine ro_ ?_
      obtain ⟨k, rfl⟩ := pos_of (show 1 ≤ k by omega)
      show cl _ _ _ _ = _
      rw [cl_eq (df := d_come_to) rfl rfl]
      simp [d_come_to, evSs, evS, evE, evL, evT, startE, biD, h, pk, trW, trD, Out.res]
    simp [d_name_of, evSs, evS, evE, evT, evL, startE, asgT, e0, op2W, isO, isNone, trW, pk, trD, Out.res]
theorem part_bad {k : Nat} {d : D} {l : Loc} (hk : 4 ≤ k) (h : BadP d) : fnCall (CL k) true f_part_of [.d d] l = .exc 1 .non l := by
  rcases h with ⟨t, rfl, h1, h2⟩ | h
  · exact rox_ (part_none hk h1 h2)
  · exact rox_ (part_other hk h)
theorem onward_bad {k : Nat} {d : D} {l : Loc} (hk : 5 ≤ k) (h : BadT d) : fnCall (CL k) true f_onward_text [.d d] l = .exc 1 .non l := by
  rcases h with ⟨t, rfl, h1, h2⟩ | h
  · exact rox_ (onward_none hk h1 h2)
  · exact rox_ (onward_other hk h)
theorem name_w {k : Nat} {a a' : Tx} {l : Loc} (hk : 4 ≤ k) (h : Wn a a') : fnCall (CL k) true f_name_of [.d (.str a')] l = .ok (.d (.str a)) l := by
  have := h.2
  exact ro_ (name_some hk (by omega) h.1)
theorem part_w {k : Nat} {a a' : Tx} {l : Loc} (hk : 4 ≤ k) (h : Wp a a') : fnCall (CL k) true f_part_of [.d (.str a')] l = .ok (.d (.str a)) l := by
  have := h.2
  exact ro_ (part_some hk (by omega) h.1)
theorem onward_w {k : Nat} {b b' : Tx} {l : Loc} (hk : 5 ≤ k) (h : Wt b b') : fnCall (CL k) true f_onward_text [.d (.str b')] l = .ok (.d (.str b)) l := by
  have := h.2.2.1
  rw [← h.2.1]
  exact ro_ (onward_some hk (by omega) h.1)
theorem tx_ok {k : Nat} {d : Tx} {l : Loc} (hk : 1 ≤ k) (h : d.length ≤ 400) : fnCall (CL k) true f_checked [.d (.str d)] l = .ok (.d (.str d)) l := by
  obtain ⟨k, rfl⟩ := pos_of hk
  refine ro_ ?_
  show cl _ _ _ _ = _
  rw [cl_eq (df := d_checked) rfl rfl]
  have hz : d.length ≤ 16777216 := by omega
  have h4 : ¬ (400 : Int) < (d.length : Int) := by omega
  simp [d_checked, evSs, evS, evE, evT, evL, evO, evC, Res.bind_ok, Res.bind_exc, Res.bind_bad, Res.out_ok, Res.out_exc, Res.out_bad, Out.thn_nx, Out.thn_rt, Out.thn_exc, Out.thn_bk, Out.thn_ct, ret_some, ret_none, idxW, op2W, pk, pkL, op2, eqO, okD, okL, cmpI, trW, trD, asgT, setMany, modD, fdivD, mulD, addD, subD, retO, setIW, Out.res, biD, isTy, rcv, unW, mk1, mk2, mk3, mk4, mk5, mt1, mt2, mt3, mt4, asgI, walked, stays_no, List.map_map, Function.comp_def, padN_zero, fnCall_f, startE, isO, isNone, inO, inW, slD, itms, small62, wipeE, noExc, unStr, frzW, appW, CF_fn, CF_sub, any2, eqd_str, hz, h4]
/-- what is no text of a page -/
def BadX (d : D) : Prop := (∃ t : Tx, d = .str t ∧ 400 < t.length ∧ t.length ≤ 1000) ∨ isTy .str d = some false
theorem tx_bad {k : Nat} {d : D} {l : Loc} (hk : 1 ≤ k) (h : BadX d) : fnCall (CL k) true f_checked [.d d] l = .exc 2 .non l := by
  obtain ⟨k, rfl⟩ := pos_of hk
  refine rox_ ?_
  show cl _ _ _ _ = _
  rw [cl_eq (df := d_checked) rfl rfl]
  rcases h with ⟨t, rfl, h1, h2⟩ | h
  · have hz : t.length ≤ 16777216 := by omega
    have h4 : (400 : Int) < (t.length : Int) := by omega
    simp [d_checked, evSs, evS, evE, evT, evL, evO, evC, Res.bind_ok, Res.bind_exc, Res.bind_bad, Res.out_ok, Res.out_exc, Res.out_bad, Out.thn_nx, Out.thn_rt, Out.thn_exc, Out.thn_bk, Out.thn_ct, ret_some, ret_none, idxW, op2W, pk, pkL, op2, eqO, okD, okL, cmpI, trW, trD, asgT, setMany, modD, fdivD, mulD, addD, subD, retO, setIW, Out.res, biD, isTy, rcv, unW, mk1, mk2, mk3, mk4, mk5, mt1, mt2, mt3, mt4, asgI, walked, stays_no, List.map_map, Function.comp_def, padN_zero, fnCall_f, startE, isO, isNone, inO, inW, slD, itms, small62, wipeE, noExc, unStr, frzW, appW, CF_fn, CF_sub, any2, eqd_str, hz, h4]
  · simp [d_checked, evSs, evS, evE, evL, evT, startE, biD, h, pk, trW, trD, Out.res]
theorem escaped_ {k : Nat} {t : Tx} {l : Loc} (hk : 1 ≤ k) (ht : t.length ≤ 1000) : cl k f_escaped [.d (.str t)] l = .ok (.d (.str (esc t))) l := by
  obtain ⟨k, rfl⟩ := pos_of hk
  rw [cl_eq (df := d_escaped) rfl rfl]
  have h1 : t.length + (t.length + 1) * 2 ≤ 16777216 := by omega
  have h2 := repl_len1 t
  have h3 : (PySem.StrLaws.replL [92] [92, 92] t).length + ((PySem.StrLaws.replL [92] [92, 92] t).length + 1) * 2 ≤ 16777216 := by omega
  have r1 : replW [92] [92, 92] (.d (.str t)) = some (.d (.str (PySem.StrLaws.replL [92] [92, 92] t))) := by
    simp only [replW]
    rw [if_pos ⟨by simp, by simp, h1⟩]
  have r2 : replW [10] [92, 110] (.d (.str (PySem.StrLaws.replL [92] [92, 92] t))) = some (.d (.str (esc t))) := by
    simp only [replW]
    rw [if_pos ⟨by simp, by simp, h3⟩, esc_eq]
  simp [d_escaped, evSs, evS, evE, startE, r1, r2, Out.res]
theorem row_wr {k : Nat} {a a' t : Tx} {l : Loc} (hk : 6 ≤ k) (h : Wn a a') (ht : t.length ≤ 400) : cl k f_deed_row [.d (Dd.wr a' t).D] l = .ok (.d (.str (Dd.wr a t).row)) l := by
  obtain ⟨k, rfl⟩ := pos_of (show 1 ≤ k by omega)
  rw [cl_eq (df := d_deed_row) rfl rfl]
  have c := check_ok (k := k) (w := WWRITE) (as := [.str a', .str t]) (l := l) (by omega) rfl rfl
  have e1 := name_w (k := k) (l := l) (by omega) h
  have e2 := tx_ok (k := k) (l := l) (by omega) ht
  have e3 := ro_ (escaped_ (k := k) (t := t) (l := l) (by omega) (by omega))
  have hl := name_wl h
  have hl2 := esc_len t
  have a1 := add_s (a := [119, 114, 105, 116, 101, 32]) (b := a) (by simp; omega)
  have a2 := add_s (a := [119, 114, 105, 116, 101, 32] ++ a) (b := [58, 32]) (by simp; omega)
  have a3 := add_s (a := [119, 114, 105, 116, 101, 32] ++ a ++ [58, 32]) (b := esc t) (by simp; omega)
  simp only [Dd.D, Dd.row]
  generalize hz2 : [119, 114, 105, 116, 101, 32] ++ a = x2 at *
  generalize hz3 : x2 ++ [58, 32] = x3 at *
  simp [d_deed_row, evSs, evS, evE, evT, evL, startE, asgT, padN_zero, biD, pk, trW, trD, op2W, op2, idxW, eqO, okD, eqD, Out.res, c, at_0, at_1, at_2, e1, e2, e3, a1, a2, a3]
theorem row_tw {k : Nat} {w a a' b b' : Tx} {l : Loc} (hk : 6 ≤ k) (hw : w = WREN ∨ w = WJOIN ∨ w = WFAM) (h : Wn a a') (h2 : Wn b b') : cl k f_deed_row [.d (Dd.tw w a' b').D] l = .ok (.d (.str (Dd.tw w a b).row)) l := by
  obtain ⟨k, rfl⟩ := pos_of (show 1 ≤ k by omega)
  rw [cl_eq (df := d_deed_row) rfl rfl]
  have hs : size w = some 3 := by rcases hw with rfl | rfl | rfl <;> rfl
  have c := check_ok (k := k) (w := w) (as := [.str a', .str b']) (l := l) (by omega) hs rfl
  have e1 := name_w (k := k) (l := l) (by omega) h
  have e2 := name_w (k := k) (l := l) (by omega) h2
  have hl := name_wl h
  have hl2 := name_wl h2
  have w1 : w.length ≤ 6 := by rcases hw with rfl | rfl | rfl <;> decide
  have n1 : (w == WWRITE) = false := by rcases hw with rfl | rfl | rfl <;> rfl
  have n2 : (w == WPART) = false := by rcases hw with rfl | rfl | rfl <;> rfl
  have n3 : (w == WSIGN) = false := by rcases hw with rfl | rfl | rfl <;> rfl
  have a1 := add_s (a := w) (b := [32]) (by simp; omega)
  have a2 := add_s (a := w ++ [32]) (b := a) (by simp; omega)
  have a3 := add_s (a := w ++ [32] ++ a) (b := [32, 62, 32]) (by simp; omega)
  have a4 := add_s (a := w ++ [32] ++ a ++ [32, 62, 32]) (b := b) (by simp; omega)
  simp only [Dd.D, Dd.row]
  generalize hz1 : w ++ [32] = x1 at *
  generalize hz2 : x1 ++ a = x2 at *
  generalize hz3 : x2 ++ [32, 62, 32] = x3 at *
  simp [d_deed_row, evSs, evS, evE, evT, evL, startE, asgT, padN_zero, biD, pk, trW, trD, op2W, op2, idxW, eqO, okD, eqD, Out.res, c, at_0, at_1, at_2, e1, e2, n1, n2, n3, a1, a2, a3, a4]
theorem row_sg {k : Nat} {a a' b b' : Tx} {l : Loc} (hk : 6 ≤ k) (h : Wn a a') (h2 : Wt b b') : cl k f_deed_row [.d (Dd.tw WSIGN a' b').D] l = .ok (.d (.str (Dd.tw WSIGN a b).row)) l := by
  obtain ⟨k, rfl⟩ := pos_of (show 1 ≤ k by omega)
  rw [cl_eq (df := d_deed_row) rfl rfl]
  have c := check_ok (k := k) (w := WSIGN) (as := [.str a', .str b']) (l := l) (by omega) rfl rfl
  have e1 := name_w (k := k) (l := l) (by omega) h
  have e2 := onward_w (k := k) (l := l) (by omega) h2
  have hl := name_wl h
  have hl2 := h2.2.2.2
  have a2 := add_s (a := [115, 105, 103, 110, 32]) (b := a) (by simp; omega)
  have a3 := add_s (a := [115, 105, 103, 110, 32] ++ a) (b := [32, 62, 32]) (by simp; omega)
  have a4 := add_s (a := [115, 105, 103, 110, 32] ++ a ++ [32, 62, 32]) (b := b) (by simp; omega)
  have hr : (Dd.tw WSIGN a b).row = [115, 105, 103, 110, 32] ++ a ++ [32, 62, 32] ++ b := rfl
  rw [hr]
  simp only [Dd.D]
  generalize hz2 : [115, 105, 103, 110, 32] ++ a = x2 at *
  generalize hz3 : x2 ++ [32, 62, 32] = x3 at *
  simp [d_deed_row, evSs, evS, evE, evT, evL, startE, asgT, padN_zero, biD, pk, trW, trD, op2W, op2, idxW, eqO, okD, eqD, Out.res, c, at_0, at_1, at_2, e1, e2, a2, a3, a4]
theorem row_pt {k : Nat} {a a' p p' b b' : Tx} {l : Loc} (hk : 6 ≤ k) (h : Wn a a') (h1 : Wp p p') (h2 : Wn b b') : cl k f_deed_row [.d (Dd.pt a' p' b').D] l = .ok (.d (.str (Dd.pt a p b).row)) l := by
  obtain ⟨k, rfl⟩ := pos_of (show 1 ≤ k by omega)
  rw [cl_eq (df := d_deed_row) rfl rfl]
  have c := check_ok (k := k) (w := WPART) (as := [.str a', .str p', .str b']) (l := l) (by omega) rfl rfl
  have e1 := name_w (k := k) (l := l) (by omega) h
  have e2 := part_w (k := k) (l := l) (by omega) h1
  have e3 := name_w (k := k) (l := l) (by omega) h2
  have hl := name_wl h
  have hl1 := part_wl h1
  have hl2 := name_wl h2
  have a1 := add_s (a := [112, 97, 114, 116, 32]) (b := a) (by simp; omega)
  have a2 := add_s (a := [112, 97, 114, 116, 32] ++ a) (b := [32, 35, 32]) (by simp; omega)
  have a3 := add_s (a := [112, 97, 114, 116, 32] ++ a ++ [32, 35, 32]) (b := p) (by simp; omega)
  have a4 := add_s (a := [112, 97, 114, 116, 32] ++ a ++ [32, 35, 32] ++ p) (b := [32, 62, 32]) (by simp; omega)
  have a5 := add_s (a := [112, 97, 114, 116, 32] ++ a ++ [32, 35, 32] ++ p ++ [32, 62, 32]) (b := b) (by simp; omega)
  have at3 : atD [D.str WPART, D.str a', D.str p', D.str b'] 3 = some (.str b') := rfl
  simp only [Dd.D, Dd.row]
  generalize hz2 : [112, 97, 114, 116, 32] ++ a = x2 at *
  generalize hz3 : x2 ++ [32, 35, 32] = x3 at *
  generalize hz4 : x3 ++ p = x4 at *
  generalize hz5 : x4 ++ [32, 62, 32] = x5 at *
  simp [d_deed_row, evSs, evS, evE, evT, evL, startE, asgT, padN_zero, biD, pk, trW, trD, op2W, op2, idxW, eqO, okD, eqD, Out.res, c, at_0, at_1, at_2, at3, e1, e2, e3, a1, a2, a3, a4, a5]
theorem row_on {k : Nat} {w a a' : Tx} {l : Loc} (hk : 6 ≤ k) (hw : w = WAWAY ∨ w = WBACK ∨ w = WRENEW) (h : Wn a a') : cl k f_deed_row [.d (Dd.on w a').D] l = .ok (.d (.str (Dd.on w a).row)) l := by
  obtain ⟨k, rfl⟩ := pos_of (show 1 ≤ k by omega)
  rw [cl_eq (df := d_deed_row) rfl rfl]
  have hs : size w = some 2 := by rcases hw with rfl | rfl | rfl <;> rfl
  have c := check_ok (k := k) (w := w) (as := [.str a']) (l := l) (by omega) hs rfl
  have e1 := name_w (k := k) (l := l) (by omega) h
  have hl := name_wl h
  have w1 : w.length ≤ 6 := by rcases hw with rfl | rfl | rfl <;> decide
  have n1 : (w == WWRITE) = false := by rcases hw with rfl | rfl | rfl <;> rfl
  have n2 : (w == WPART) = false := by rcases hw with rfl | rfl | rfl <;> rfl
  have n3 : (w == WSIGN) = false := by rcases hw with rfl | rfl | rfl <;> rfl
  have a1 := add_s (a := w) (b := [32]) (by simp; omega)
  have a2 := add_s (a := w ++ [32]) (b := a) (by simp; omega)
  simp only [Dd.D, Dd.row]
  generalize hz1 : w ++ [32] = x1 at *
  simp [d_deed_row, evSs, evS, evE, evT, evL, startE, asgT, padN_zero, biD, pk, trW, trD, op2W, op2, idxW, eqO, okD, eqD, Out.res, c, at_0, at_1, at_2, e1, n1, n2, n3, a1, a2]
theorem row_st {k : Nat} {l : Loc} (hk : 6 ≤ k) : cl k f_deed_row [.d Dd.st.D] l = .ok (.d (.str Dd.st.row)) l := by
  obtain ⟨k, rfl⟩ := pos_of (show 1 ≤ k by omega)
  rw [cl_eq (df := d_deed_row) rfl rfl]
  have c := check_ok (k := k) (w := WSTR) (as := []) (l := l) (by omega) rfl rfl
  simp [d_deed_row, evSs, evS, evE, evT, evL, startE, asgT, padN_zero, biD, pk, trW, trD, op2W, op2, idxW, eqO, okD, eqD, Out.res, c, at_0, Dd.D, Dd.row]
end Vx

set_option maxHeartbeats 400000
namespace Vx
open PySem L2
/-! names drawn, and written otherwise -/
theorem fold_free : ∀ (w f : Tx), (∀ c ∈ w, c ≠ 95) → w.foldl fstep (f, false) = (f ++ w, false)
  | [], f, _ => by simp
  | c :: w, f, h => by
    have hc := h c List.mem_cons_self
    rw [List.foldl_cons, fstep_ne hc]
    show w.foldl fstep (f ++ [] ++ [c], false) = _
    rw [fold_free w _ fun x hx => h x (List.mem_cons_of_mem _ hx)]
    simp
theorem p36_95 : ∀ c ∈ P36, c ≠ 95 := by decide
theorem SegOk.chars {s : Tx} (h : SegOk s) : ∀ c ∈ s, okN1 c := by
  obtain ⟨w, _, _, h2, rfl | ⟨c, hc, rfl⟩⟩ := h
  · exact fun c hc => .inl (h2 c hc)
  · intro x hx
    rcases List.mem_append.mp hx with hx | hx
    · exact .inl (h2 x hx)
    · rcases List.mem_cons.mp hx with rfl | hx
      · exact .inr rfl
      · rw [List.mem_singleton.mp hx]; exact .inl hc
theorem SegOk.ne {s : Tx} (h : SegOk s) : s ≠ [] := by
  obtain ⟨w, h0, _, _, rfl | ⟨c, hc, rfl⟩⟩ := h
  · exact h0
  · simp
theorem SegOk.fold {s : Tx} (h : SegOk s) : fold s = s := by
  obtain ⟨w, h0, _, h2, rfl | ⟨c, hc, rfl⟩⟩ := h
  · unfold Vx.fold
    rw [fold_free _ [] fun c hc => p36_95 c (h2 c hc)]
    rfl
  · unfold Vx.fold
    rw [List.foldl_append, fold_free _ [] fun c hc => p36_95 c (h2 c hc), List.nil_append]
    rw [List.foldl_cons, fstep_us, List.foldl_cons, fstep_ne (p36_95 c hc)]
    simp [h0]
theorem SegOk.seg {s : Tx} (h : SegOk s) : segD s = .str s := by
  unfold segD
  rw [ncs_self h.chars]
  show sgN s = _
  unfold sgN
  rw [h.fold, if_neg h.ne]
theorem okN1_47 {c : Nat} (h : okN1 c) : c ≠ 47 := by
  rcases h with h | rfl
  · exact p36_47 c h
  · decide
where
  p36_47 : ∀ c ∈ P36, c ≠ 47 := by decide
theorem NmOk.sp {t : Tx} (h : NmOk t) : ∃ ss : List Tx, ss ≠ [] ∧ ss.length ≤ 4 ∧ (∀ s ∈ ss, SegOk s) ∧ sp1 47 [] t = ss ∧ t = TL.joinL [47] ss := by
  obtain ⟨ss, h1, h2, h3, rfl⟩ := h.segs
  exact ⟨ss, h1, h2, h3, sp1_join (fun r hr c hc => okN1_47 ((h3 r hr).chars c hc)) h1, rfl⟩
theorem NmOk.name {t : Tx} (h : NmOk t) : nameD t = .str t ∧ t.length ≤ 24 ∧ ∀ c ∈ t, okC1 c := by
  obtain ⟨ss, h1, h2, h3, h4, h5⟩ := h.sp
  have e : ss.map segD = ss.map .str := List.map_congr_left fun s hs => (h3 s hs).seg
  have hl := joinL_len (s := [47]) (m := 5) (xs := ss) fun s hs => (h3 s hs).len
  have hl' : (TL.joinL [47] ss).length ≤ 24 := by
    simp only [List.length_cons, List.length_nil] at hl
    have : ss.length * (5 + (0 + 1)) ≤ 4 * 6 := Nat.mul_le_mul h2 (by omega)
    omega
  refine ⟨?_, by rw [h5]; exact hl', ?_⟩
  · unfold nameD joinO
    rw [h4, e, unStr_map]
    dsimp only
    rw [if_neg (by omega), h5]
  · rw [h5]
    exact okC1_of fun s hs => (h3 s hs).chars
theorem SegOk.part {s : Tx} (h : SegOk s) : partD s = .str s := by
  unfold partD
  rw [h.seg]
  dsimp only
  have := h.len
  rw [if_neg (by omega)]
/-- signs of written names -/
def okW (c : Nat) : Prop := c ∈ P36 ∨ c ∈ G26 ∨ c ∈ B3 ∨ c = 47
theorem p36_up : ∀ c ∈ P36, uppC c ∈ P36 ∨ uppC c ∈ G26 := by decide
theorem alt_chars {d o : Tx} (h : Alt d o) : (∀ c ∈ d, okC1 c) → ∀ c ∈ o, okW c := by
  induction h with
  | nil => intro _ c hc; cases hc
  | @cons c x d o hc hx h ih =>
    intro hd y hy
    rcases List.mem_cons.mp hy with rfl | hy
    · have h1 := hd c List.mem_cons_self
      have hp : c ∈ P36 ∨ c = 47 := by
        rcases h1 with (h1 | h1) | h1
        · exact .inl h1
        · exact absurd h1 hc
        · exact .inr h1
      rcases hx with rfl | rfl
      · rcases hp with hp | hp
        · exact .inl hp
        · exact .inr (.inr (.inr hp))
      · rcases hp with hp | rfl
        · rcases p36_up c hp with h | h
          · exact .inl h
          · exact .inr (.inl h)
        · exact .inr (.inr (.inr rfl))
    · exact ih (fun c hc => hd c (List.mem_cons_of_mem _ hc)) y hy
  | us hg hb h ih =>
    intro hd y hy
    rcases List.mem_append.mp hy with hy | hy
    · exact .inr (.inr (.inl (hb y hy)))
    · exact ih (fun c hc => hd c (List.mem_cons_of_mem _ hc)) y hy
/-- written so -/
structure Wr (a a' : Tx) : Prop where
  n : ∀ t, nameD t = .str a → nameD a' = .str a
  s : (∀ c ∈ a, okN1 c) → segD a' = segD a
  len : a'.length ≤ 50
  ch : ∀ c ∈ a', okW c
theorem okN1_C {d : Tx} (h : ∀ c ∈ d, okN1 c) : ∀ c ∈ d, okC1 c := fun c hc => .inl (h c hc)
theorem wr_of {a pre o suf : Tx} (ha : ∀ c ∈ a, okC1 c) (h : Alt a o) (hp : ∀ c ∈ pre, c ∈ B3) (hs : ∀ c ∈ suf, c ∈ B3) (hl : (pre ++ o ++ suf).length ≤ 50) : Wr a (pre ++ o ++ suf) where
  n := fun t ht => name_alt ht h hp hs
  s := fun hn => seg_alt ⟨pre, o, suf, rfl, hp, hs, h⟩ hn
  len := hl
  ch := fun c hc => by
    rcases List.mem_append.mp hc with hc | hc
    · rcases List.mem_append.mp hc with hc | hc
      · exact .inr (.inr (.inl (hp c hc)))
      · exact alt_chars h ha c hc
    · exact .inr (.inr (.inl (hs c hc)))
theorem NmOk.wn {a a' : Tx} (h : NmOk a) (w : Wr a a') : Wn a a' := ⟨w.n a h.name.1, by have := w.len; omega⟩
theorem SegOk.wp {a a' : Tx} (h : SegOk a) (w : Wr a a') : Wp a a' := by
  refine ⟨?_, by have := w.len; omega⟩
  have h1 := w.s h.chars
  have h2 := h.part
  unfold partD at h2 ⊢
  rw [h1]
  exact h2
theorem wr_self {a : Tx} (ha : ∀ c ∈ a, okC1 c) (hl : a.length ≤ 50) : Wr a a := by
  have := wr_of (pre := []) (suf := []) ha (Alt.refl a) (by simp) (by simp) (by simpa using hl)
  simpa using this
theorem okW_ne {c x : Nat} (h : okW c) (hx : x ∈ ([10, 35, 58, 62, 92] : Tx)) : c ≠ x := by
  have k1 : ∀ c ∈ P36, ∀ x ∈ ([10, 35, 58, 62, 92] : Tx), c ≠ x := by decide
  have k2 : ∀ c ∈ G26, ∀ x ∈ ([10, 35, 58, 62, 92] : Tx), c ≠ x := by decide
  have k3 : ∀ c ∈ B3, ∀ x ∈ ([10, 35, 58, 62, 92] : Tx), c ≠ x := by decide
  rcases h with h | h | h | rfl
  · exact k1 c h x hx
  · exact k2 c h x hx
  · exact k3 c h x hx
  · have : ∀ x ∈ ([10, 35, 58, 62, 92] : Tx), 47 ≠ x := by decide
    exact this x hx
theorem okW_lt {c : Nat} (h : okW c) : c < 128 := by
  have k1 : ∀ c ∈ P36, c < 128 := by decide
  have k2 : ∀ c ∈ G26, c < 128 := by decide
  have k3 : ∀ c ∈ B3, c < 128 := by decide
  rcases h with h | h | h | rfl
  · exact k1 c h
  · exact k2 c h
  · exact k3 c h
  · omega
theorem okC1_lt {c : Nat} (h : okC1 c) : c < 128 := by
  have k1 : ∀ c ∈ P36, c < 128 := by decide
  rcases h with (h | rfl) | rfl
  · exact k1 c h
  · omega
  · omega
/-! partition and split of what is joined -/
theorem pre_no {x y : Nat} {p r : Tx} (h : x ≠ y) : TL.pre (y :: p) (x :: r) = false := by
  unfold TL.pre
  rw [beq_eq_false_iff_ne]
  intro z
  rw [List.length_cons, List.take_succ_cons] at z
  exact h (List.cons.inj z).1
theorem pre_yes (p r : Tx) : TL.pre p (p ++ r) = true := by
  unfold TL.pre
  rw [List.take_left']
  · simp
  · rfl
theorem par_at {y : Nat} {p : Tx} : ∀ {w acc r : Tx}, (∀ c ∈ w, c ≠ y) → TL.par (y :: p) acc (w ++ (y :: p ++ r)) = some (acc ++ w, r)
  | [], acc, r, _ => by
    show (if TL.pre (y :: p) (y :: p ++ r) = true then some (acc, (y :: (p ++ r)).drop (y :: p).length) else _) = _
    rw [if_pos (pre_yes _ _), List.append_nil]
    congr 2
    rw [List.length_cons, List.drop_succ_cons, List.drop_left']
    rfl
  | c :: w, acc, r, h => by
    show (if TL.pre (y :: p) (c :: (w ++ (y :: p ++ r))) = true then _ else TL.par (y :: p) (acc ++ [c]) (w ++ (y :: p ++ r))) = _
    rw [if_neg (by rw [pre_no (h c List.mem_cons_self)]; exact Bool.false_ne_true), par_at fun x hx => h x (List.mem_cons_of_mem _ hx)]
    simp
/-- [32, y, 32] begins nowhere but ahead of a y -/
theorem pre3 {y x : Nat} {r : Tx} (hy : y ≠ 32) (h : TL.pre [32, y, 32] (x :: r) = true) : ∃ r2, r = y :: r2 := by
  unfold TL.pre at h
  have := eq_of_beq h
  cases r with
  | nil => simp at this
  | cons z r2 =>
    simp at this
    exact ⟨r2, by rw [this.2.1]⟩
theorem spl_end {y : Nat} (hy : y ≠ 32) : ∀ {b acc : Tx}, (∀ c ∈ b, c ≠ y) → TL.spl [32, y, 32] 0 acc b = [acc ++ b]
  | [], acc, _ => by rw [TL.spl_nil, List.append_nil]
  | c :: b, acc, h => by
    have hn : TL.pre [32, y, 32] (c :: b) = false := by
      cases q : TL.pre [32, y, 32] (c :: b) with
      | false => rfl
      | true =>
        obtain ⟨r2, rfl⟩ := pre3 hy q
        exact absurd rfl (h y (by simp))
    rw [TL.spl_miss hn, spl_end hy fun x hx => h x (List.mem_cons_of_mem _ hx)]
    simp
theorem spl_two {y : Nat} (hy : y ≠ 32) : ∀ {a acc b : Tx}, (∀ c ∈ a, c ≠ y) → (∀ c ∈ b, c ≠ y) → TL.spl [32, y, 32] 0 acc (a ++ 32 :: y :: 32 :: b) = [acc ++ a, b]
  | [], acc, b, _, hb => by
    rw [List.nil_append, TL.spl_hit (show TL.pre [32, y, 32] (32 :: y :: 32 :: b) = true from pre_yes [32, y, 32] b)]
    show _ :: TL.spl [32, y, 32] 2 [] (y :: 32 :: b) = _
    have e : TL.spl [32, y, 32] 2 [] (y :: 32 :: b) = TL.spl [32, y, 32] 0 [] b := rfl
    rw [e, spl_end hy hb]
    simp
  | c :: a, acc, b, ha, hb => by
    have hn : TL.pre [32, y, 32] (c :: (a ++ 32 :: y :: 32 :: b)) = false := by
      cases q : TL.pre [32, y, 32] (c :: (a ++ 32 :: y :: 32 :: b)) with
      | false => rfl
      | true =>
        obtain ⟨r2, e⟩ := pre3 hy q
        cases a with
        | nil => exact absurd (List.cons.inj e).1.symm hy
        | cons z a => exact absurd (List.cons.inj e).1 (ha z (by simp))
    rw [List.cons_append, TL.spl_miss hn, spl_two hy (fun x hx => ha x (List.mem_cons_of_mem _ hx)) hb]
    simp
end Vx

set_option maxHeartbeats 400000
namespace Vx
open PySem L2
/-! a row is read as its deed -/
theorem rd_first {w rest : Tx} (hw : ∀ c ∈ w, c ≠ 32) : TL.par [32] [] (w ++ 32 :: rest) = some (w, rest) := by
  have := par_at (y := 32) (p := []) (w := w) (acc := []) (r := rest) hw
  simpa using this
theorem ne_str {w rest : Tx} : w ++ 32 :: rest ≠ WSTR := by
  intro h
  have h1 : (32 : Nat) ∈ WSTR := by rw [← h]; simp
  exact absurd h1 (by decide)
theorem read_wr {a a' t : Tx} (h : Wn a a') (hc : ∀ c ∈ a', okW c) (ht : t.length ≤ 400) : deedD (Dd.wr a' t).row = (Dd.wr a t).D := by
  have e : (Dd.wr a' t).row = WWRITE ++ 32 :: (a' ++ (58 :: [32] ++ esc t)) := by simp [Dd.row]
  rw [e]
  unfold deedD
  rw [if_neg ne_str, rd_first (by decide)]
  have hs : (size WWRITE).getD 1 = 3 := rfl
  dsimp only
  rw [hs, if_neg (by decide), if_pos rfl]
  unfold readWrite
  rw [par_at (y := 58) (p := [32]) fun c hc' => okW_ne (hc c hc') (by simp)]
  rw [List.nil_append]
  dsimp only
  rw [h.1, une_esc]
  dsimp only
  rw [if_neg (by omega)]
  rfl
theorem read_tw {w a a' b b' : Tx} (hw : w = WREN ∨ w = WJOIN ∨ w = WFAM) (h : Wn a a') (hc : ∀ c ∈ a', okW c) (h2 : Wn b b') (hc2 : ∀ c ∈ b', okW c) : deedD (Dd.tw w a' b').row = (Dd.tw w a b).D := by
  have e : (Dd.tw w a' b').row = w ++ 32 :: (a' ++ 32 :: 62 :: 32 :: b') := by simp [Dd.row]
  rw [e]
  have hw32 : ∀ c ∈ w, c ≠ 32 := by rcases hw with rfl | rfl | rfl <;> decide
  have hs : (size w).getD 1 = 3 := by rcases hw with rfl | rfl | rfl <;> rfl
  have n1 : w ≠ WWRITE := by rcases hw with rfl | rfl | rfl <;> decide
  have n2 : w ≠ WPART := by rcases hw with rfl | rfl | rfl <;> decide
  have n3 : w ≠ WSIGN := by rcases hw with rfl | rfl | rfl <;> decide
  have n4 : size w ≠ some 2 := by rcases hw with rfl | rfl | rfl <;> decide
  unfold deedD
  rw [if_neg ne_str, rd_first hw32]
  dsimp only
  rw [hs, if_neg (by decide), if_neg n1, if_neg n2, if_neg n4]
  unfold readTwo
  rw [spl_two (by decide) (fun c hc' => okW_ne (hc c hc') (by simp)) (fun c hc' => okW_ne (hc2 c hc') (by simp)), List.nil_append]
  dsimp only
  unfold other
  rw [if_neg n3, h.1, h2.1]
  rfl
theorem read_sg {a a' b b' : Tx} (h : Wn a a') (hc : ∀ c ∈ a', okW c) (h2 : Wt b b') (hc2 : ∀ c ∈ b', okW c ∨ c = 35) : deedD (Dd.tw WSIGN a' b').row = (Dd.tw WSIGN a b).D := by
  have e : (Dd.tw WSIGN a' b').row = WSIGN ++ 32 :: (a' ++ 32 :: 62 :: 32 :: b') := by simp [Dd.row]
  rw [e]
  unfold deedD
  rw [if_neg ne_str, rd_first (by decide)]
  have hs : (size WSIGN).getD 1 = 3 := rfl
  dsimp only
  rw [hs, if_neg (by decide), if_neg (by decide), if_neg (by decide), if_neg (by decide)]
  unfold readTwo
  rw [spl_two (by decide) (fun c hc' => okW_ne (hc c hc') (by simp)) (fun c hc' => by
    rcases hc2 c hc' with hc' | rfl
    · exact okW_ne hc' (by simp)
    · decide), List.nil_append]
  dsimp only
  unfold other
  rw [if_pos rfl, h.1]
  obtain ⟨h3, h4, _, _⟩ := h2
  cases q : targ b' with
  | non => exact absurd q h3
  | _ =>
    rw [q] at h4
    first
      | (rw [show ttxt _ = _ from h4]; rfl)
      | (dsimp only; rw [h4]; rfl)
theorem read_pt {a a' p p' b b' : Tx} (h : Wn a a') (hc : ∀ c ∈ a', okW c) (h1 : Wp p p') (hc1 : ∀ c ∈ p', okW c) (h2 : Wn b b') (hc2 : ∀ c ∈ b', okW c) : deedD (Dd.pt a' p' b').row = (Dd.pt a p b).D := by
  have e : (Dd.pt a' p' b').row = WPART ++ 32 :: ((a' ++ 32 :: 35 :: 32 :: p') ++ 32 :: 62 :: 32 :: b') := by simp [Dd.row]
  rw [e]
  unfold deedD
  rw [if_neg ne_str, rd_first (by decide)]
  have hs : (size WPART).getD 1 = 4 := rfl
  dsimp only
  rw [hs, if_neg (by decide), if_neg (by decide), if_pos rfl]
  unfold readPart
  rw [spl_two (by decide) (fun c hc' => by
    rcases List.mem_append.mp hc' with hc' | hc'
    · exact okW_ne (hc c hc') (by simp)
    · rcases List.mem_cons.mp hc' with rfl | hc'
      · decide
      · rcases List.mem_cons.mp hc' with rfl | hc'
        · decide
        · rcases List.mem_cons.mp hc' with rfl | hc'
          · decide
          · exact okW_ne (hc1 c hc') (by simp)) (fun c hc' => okW_ne (hc2 c hc') (by simp)), List.nil_append]
  dsimp only
  rw [spl_two (by decide) (fun c hc' => okW_ne (hc c hc') (by simp)) (fun c hc' => okW_ne (hc1 c hc') (by simp)), List.nil_append]
  dsimp only
  rw [h.1, h1.1, h2.1]
  rfl
theorem read_on {w a a' : Tx} (hw : w = WAWAY ∨ w = WBACK ∨ w = WRENEW) (h : Wn a a') : deedD (Dd.on w a').row = (Dd.on w a).D := by
  have e : (Dd.on w a').row = w ++ 32 :: a' := by simp [Dd.row]
  rw [e]
  have hw32 : ∀ c ∈ w, c ≠ 32 := by rcases hw with rfl | rfl | rfl <;> decide
  have hs : (size w).getD 1 = 2 := by rcases hw with rfl | rfl | rfl <;> rfl
  have n1 : w ≠ WWRITE := by rcases hw with rfl | rfl | rfl <;> decide
  have n2 : w ≠ WPART := by rcases hw with rfl | rfl | rfl <;> decide
  have n4 : size w = some 2 := by rcases hw with rfl | rfl | rfl <;> rfl
  unfold deedD
  rw [if_neg ne_str, rd_first hw32]
  dsimp only
  rw [hs, if_neg (by decide), if_neg n1, if_neg n2, if_pos n4]
  unfold readOne
  rw [h.1]
  rfl
theorem read_st : deedD Dd.st.row = Dd.st.D := by
  unfold deedD
  rw [if_pos (show Dd.st.row = WSTR from rfl)]
  rfl
/-! targets -/
theorem sp35 {a : Tx} (h : ∀ c ∈ a, okW c) : sp1 35 [] a = [a] := sp1_one fun c hc => okW_ne (h c hc) (by simp)
theorem sp35_2 {a p : Tx} (h : ∀ c ∈ a, okW c) (h2 : ∀ c ∈ p, okW c) : sp1 35 [] (a ++ 35 :: p) = [a, p] := by
  rw [sp1_app, sp35 h, sp35 h2]
  rfl
theorem wt_one {a a' : Tx} (h : Wn a a') (hl : a'.length ≤ 50) (hc : ∀ c ∈ a', okW c) : Wt a a' := by
  have e : targ a' = .tup [.str a, .non] := by
    unfold targ
    rw [sp35 hc]
    dsimp only
    rw [h.1]
  have := name_wl h
  exact ⟨by rw [e]; simp, by rw [e]; rfl, by omega, by omega⟩
theorem wt_two {a a' p p' : Tx} (h : Wn a a') (hl : a'.length ≤ 50) (hc : ∀ c ∈ a', okW c) (h2 : Wp p p') (hl2 : p'.length ≤ 50) (hc2 : ∀ c ∈ p', okW c) : Wt (a ++ 35 :: p) (a' ++ 35 :: p') := by
  have e : targ (a' ++ 35 :: p') = .tup [.str a, .str p] := by
    unfold targ
    rw [sp35_2 hc hc2]
    dsimp only
    rw [h.1, h2.1]
  have := name_wl h
  have := part_wl h2
  exact ⟨by rw [e]; simp, by rw [e]; rfl, by simp; omega, by simp; omega⟩
/-! deeds drawn -/
def To (b : Tx) : Prop := NmOk b ∨ ∃ c p, NmOk c ∧ SegOk p ∧ b = c ++ 35 :: p
def DdOk : Dd → Prop
  | .wr a t => NmOk a ∧ t.length ≤ 400 ∧ ∀ c ∈ t, c < 128
  | .tw w a b => NmOk a ∧ (((w = WREN ∨ w = WJOIN ∨ w = WFAM) ∧ NmOk b) ∨ (w = WSIGN ∧ To b))
  | .pt a p b => NmOk a ∧ SegOk p ∧ NmOk b
  | .on w a => NmOk a ∧ (w = WAWAY ∨ w = WBACK ∨ w = WRENEW)
  | .st => True
/-- the target handed -/
def ToW (b b' : Tx) : Prop := (NmOk b ∧ Wr b b') ∨ ∃ c p c' p', NmOk c ∧ SegOk p ∧ b = c ++ 35 :: p ∧ Wr c c' ∧ Wr p p' ∧ b' = c' ++ 35 :: p'
/-- a deed handed -/
def Hd : Dd → Dd → Prop
  | .wr a t, .wr a' t' => Wr a a' ∧ t' = t
  | .tw w a b, .tw w' a' b' => w' = w ∧ Wr a a' ∧ ((w ≠ WSIGN ∧ Wr b b') ∨ (w = WSIGN ∧ ToW b b'))
  | .pt a p b, .pt a' p' b' => Wr a a' ∧ Wr p p' ∧ Wr b b'
  | .on w a, .on w' a' => w' = w ∧ Wr a a'
  | .st, .st => True
  | _, _ => False
theorem ToW.wt {b b' : Tx} (h : ToW b b') : Wt b b' ∧ ∀ c ∈ b', okW c ∨ c = 35 := by
  rcases h with ⟨h1, h2⟩ | ⟨c, p, c', p', h1, h2, rfl, h3, h4, rfl⟩
  · exact ⟨wt_one (h1.wn h2) h2.len h2.ch, fun c hc => .inl (h2.ch c hc)⟩
  · refine ⟨wt_two (h1.wn h3) h3.len h3.ch (h2.wp h4) h4.len h4.ch, fun x hx => ?_⟩
    rcases List.mem_append.mp hx with hx | hx
    · exact .inl (h3.ch x hx)
    · rcases List.mem_cons.mp hx with rfl | hx
      · exact .inr rfl
      · exact .inl (h4.ch x hx)
theorem tw_nsg {w : Tx} (hw : w = WREN ∨ w = WJOIN ∨ w = WFAM) : w ≠ WSIGN := by rcases hw with rfl | rfl | rfl <;> decide
theorem read_hd {d d' : Dd} (h : DdOk d) (w : Hd d d') : deedD d'.row = d.D := by
  cases d <;> cases d' <;> first | (exact w.elim) | skip
  · obtain ⟨w1, rfl⟩ := w
    exact read_wr (h.1.wn w1) w1.ch h.2.1
  · obtain ⟨rfl, w1, w2⟩ := w
    rcases h.2 with ⟨hw, hb⟩ | ⟨rfl, hb⟩
    · rcases w2 with ⟨_, w2⟩ | ⟨w2, _⟩
      · exact read_tw hw (h.1.wn w1) w1.ch (hb.wn w2) w2.ch
      · exact absurd w2 (tw_nsg hw)
    · rcases w2 with ⟨w2, _⟩ | ⟨_, w2⟩
      · exact absurd rfl w2
      · exact read_sg (h.1.wn w1) w1.ch w2.wt.1 w2.wt.2
  · obtain ⟨w1, w2, w3⟩ := w
    exact read_pt (h.1.wn w1) w1.ch (h.2.1.wp w2) w2.ch (h.2.2.wn w3) w3.ch
  · obtain ⟨rfl, w1⟩ := w
    exact read_on h.2 (h.1.wn w1)
  · exact read_st
theorem hd_self {d : Dd} (h : DdOk d) : Hd d d := by
  have nm : ∀ {a : Tx}, NmOk a → Wr a a := fun h => wr_self h.name.2.2 (by have := h.name.2.1; omega)
  have sg : ∀ {a : Tx}, SegOk a → Wr a a := fun h => wr_self (okN1_C h.chars) (by have := h.len; omega)
  cases d with
  | wr a t => exact ⟨nm h.1, rfl⟩
  | tw w a b =>
    refine ⟨rfl, nm h.1, ?_⟩
    rcases h.2 with ⟨hw, hb⟩ | ⟨rfl, hb⟩
    · exact .inl ⟨tw_nsg hw, nm hb⟩
    · refine .inr ⟨rfl, ?_⟩
      rcases hb with hb | ⟨c, p, h1, h2, rfl⟩
      · exact .inl ⟨hb, nm hb⟩
      · exact .inr ⟨c, p, c, p, h1, h2, rfl, nm h1, sg h2, rfl⟩
  | pt a p b => exact ⟨nm h.1, sg h.2.1, nm h.2.2⟩
  | on w a => exact ⟨rfl, nm h.1⟩
  | st => trivial
end Vx

set_option maxHeartbeats 400000
namespace Vx
open PySem L2
/-! the law's row -/
theorem lesc_b {k : Nat} {l : Loc} {t f : Tx} {c : Nat} (hf : f.length ≤ 2000) : evSs (CF k) b_law_escaped_0 [some (.d (.str t)), some (.d (.str f)), some (.d (.str [c]))] l = .nx [some (.d (.str t)), some (.d (.str (f ++ e1c c))), some (.d (.str [c]))] l := by
  have hl : (e1c c).length ≤ 2 := by
    unfold e1c
    split
    · simp
    · split <;> simp
  have a1 := add_s (a := f) (b := e1c c) (by omega)
  have hd : dlW [([10], [92, 110]), ([92], [92, 92])] (.d (.str [c])) (.d (.str [c])) = some (.d (.str (e1c c))) := by
    unfold dlW e1c
    dsimp only
    unfold lastV
    by_cases h : c = 10
    · subst h; rfl
    · by_cases h2 : c = 92
      · subst h2; rfl
      · have h' : ¬ ([10] : Tx) = [c] := fun z => h (List.cons.inj z).1.symm
        have h2' : ¬ ([92] : Tx) = [c] := fun z => h2 (List.cons.inj z).1.symm
        rw [if_neg h', if_neg h, if_neg h2]
        unfold lastV
        rw [if_neg h2']
        rfl
  simp [b_law_escaped_0, evSs, evS, evE, asgT, hd, op2W, pk, op2, a1]
theorem lesc_for {k : Nat} {l : Loc} {t : Tx} : ∀ (ds f : Tx) (d : Option W), f.length + 2 * ds.length ≤ 2000 →
    ∃ d', forGo (fun _ => True) (evSs (CF k) b_law_escaped_0) (.n 2) (ds.map fun c => Itm.one (.d (.str [c]))) [some (.d (.str t)), some (.d (.str f)), d] l = .nx [some (.d (.str t)), some (.d (.str (f ++ esc ds))), d'] l
  | [], f, d, _ => ⟨d, by simp [forGo, esc]⟩
  | c :: ds, f, d, h => by
    simp only [List.length_cons] at h
    have hl : (e1c c).length ≤ 2 := by
      unfold e1c
      split
      · simp
      · split <;> simp
    obtain ⟨d', e⟩ := lesc_for (k := k) (l := l) (t := t) ds (f ++ e1c c) (some (.d (.str [c]))) (by simp; omega)
    refine ⟨d', ?_⟩
    rw [List.map_cons]
    unfold forGo
    rw [if_pos trivial]
    simp only [asgI, asgT, List.set]
    rw [lesc_b (by omega)]
    rw [show esc (c :: ds) = e1c c ++ esc ds from by unfold esc; rw [List.flatMap_cons], ← List.append_assoc]
    exact e
theorem law_escaped {k : Nat} {l : Loc} {t : Tx} (hk : 1 ≤ k) (ht : t.length ≤ 400) : cl k f_law_escaped [.d (.str t)] l = .ok (.d (.str (esc t))) l := by
  obtain ⟨k, rfl⟩ := pos_of hk
  rw [cl_eq (df := d_law_escaped) rfl rfl]
  obtain ⟨d', e⟩ := lesc_for (k := k) (l := l) (t := t) t [] none (by simp; omega)
  rw [List.nil_append] at e
  simp [d_law_escaped, evSs, evS, evE, evL, startE, asgT, itms, walked, stays_no, e, Out.res]
/-- short enough -/
def DdS : Dd → Prop
  | .wr a t => a.length ≤ 200 ∧ t.length ≤ 400
  | .tw w a b => w.length ≤ 8 ∧ a.length ≤ 200 ∧ b.length ≤ 200 ∧ w ≠ WWRITE ∧ w ≠ WPART
  | .pt a p b => a.length ≤ 200 ∧ p.length ≤ 200 ∧ b.length ≤ 200
  | .on w a => w.length ≤ 8 ∧ a.length ≤ 200 ∧ w ≠ WWRITE ∧ w ≠ WPART
  | .st => True
theorem law_row {k : Nat} {l : Loc} {d : Dd} (hk : 2 ≤ k) (h : DdS d) : cl k f_law_row [.d d.D] l = .ok (.d (.str d.row)) l := by
  obtain ⟨k, rfl⟩ := pos_of (show 1 ≤ k by omega)
  rw [cl_eq (df := d_law_row) rfl rfl]
  cases d with
  | wr a t =>
    have e := ro_ (law_escaped (k := k) (l := l) (t := t) (by omega) h.2)
    have hl := h.1
    have hl2 := esc_len t
    have hl3 := h.2
    have a1 := add_s (a := [119, 114, 105, 116, 101, 32]) (b := a) (by simp; omega)
    have a2 := add_s (a := [119, 114, 105, 116, 101, 32] ++ a) (b := [58, 32]) (by simp; omega)
    have a3 := add_s (a := [119, 114, 105, 116, 101, 32] ++ a ++ [58, 32]) (b := esc t) (by simp; omega)
    simp only [Dd.D, Dd.row]
    generalize hz2 : [119, 114, 105, 116, 101, 32] ++ a = x2 at *
    generalize hz3 : x2 ++ [58, 32] = x3 at *
    simp [d_law_row, evSs, evS, evE, evT, evL, startE, asgT, padN_zero, biD, pk, trW, trD, op2W, op2, idxW, eqO, okD, eqD, Out.res, at_0, at_1, at_2, e, a1, a2, a3]
  | tw w a b =>
    obtain ⟨w1, hl, hl2, n1, n2⟩ := h
    have n1b : (w == WWRITE) = false := by simpa using n1
    have n2b : (w == WPART) = false := by simpa using n2
    have a1 := add_s (a := w) (b := [32]) (by simp; omega)
    have a2 := add_s (a := w ++ [32]) (b := a) (by simp; omega)
    have a3 := add_s (a := w ++ [32] ++ a) (b := [32, 62, 32]) (by simp; omega)
    have a4 := add_s (a := w ++ [32] ++ a ++ [32, 62, 32]) (b := b) (by simp; omega)
    simp only [Dd.D, Dd.row]
    generalize hz1 : w ++ [32] = x1 at *
    generalize hz2 : x1 ++ a = x2 at *
    generalize hz3 : x2 ++ [32, 62, 32] = x3 at *
    simp [d_law_row, evSs, evS, evE, evT, evL, startE, asgT, padN_zero, biD, pk, trW, trD, op2W, op2, idxW, eqO, okD, eqD, Out.res, at_0, at_1, at_2, n1b, n2b, a1, a2, a3, a4]
  | pt a p b =>
    obtain ⟨hl, hl1, hl2⟩ := h
    have a1 := add_s (a := [112, 97, 114, 116, 32]) (b := a) (by simp; omega)
    have a2 := add_s (a := [112, 97, 114, 116, 32] ++ a) (b := [32, 35, 32]) (by simp; omega)
    have a3 := add_s (a := [112, 97, 114, 116, 32] ++ a ++ [32, 35, 32]) (b := p) (by simp; omega)
    have a4 := add_s (a := [112, 97, 114, 116, 32] ++ a ++ [32, 35, 32] ++ p) (b := [32, 62, 32]) (by simp; omega)
    have a5 := add_s (a := [112, 97, 114, 116, 32] ++ a ++ [32, 35, 32] ++ p ++ [32, 62, 32]) (b := b) (by simp; omega)
    have at3 : atD [D.str WPART, D.str a, D.str p, D.str b] 3 = some (.str b) := rfl
    simp only [Dd.D, Dd.row]
    generalize hz2 : [112, 97, 114, 116, 32] ++ a = x2 at *
    generalize hz3 : x2 ++ [32, 35, 32] = x3 at *
    generalize hz4 : x3 ++ p = x4 at *
    generalize hz5 : x4 ++ [32, 62, 32] = x5 at *
    simp [d_law_row, evSs, evS, evE, evT, evL, startE, asgT, padN_zero, biD, pk, trW, trD, op2W, op2, idxW, eqO, okD, eqD, Out.res, at_0, at_1, at_2, at3, a1, a2, a3, a4, a5]
  | on w a =>
    obtain ⟨w1, hl, n1, n2⟩ := h
    have n1b : (w == WWRITE) = false := by simpa using n1
    have n2b : (w == WPART) = false := by simpa using n2
    have hj : smD .join (.str [32]) [.tup [.str w, .str a]] = some (.str (w ++ [32] ++ a)) := by
      have hz : w.length + a.length + 2 ≤ 16777216 := by omega
      simp [smD, unStr, TL.joinL]
      omega
    simp only [Dd.D, Dd.row]
    simp [d_law_row, evSs, evS, evE, evT, evL, startE, asgT, padN_zero, biD, pk, pkL, trW, trD, op2W, op2, idxW, eqO, okD, eqD, Out.res, at_0, at_1, n1b, n2b, rcv, smW, hj]
  | st =>
    have hj : smD .join (.str [32]) [.tup [.str WSTR]] = some (.str WSTR) := rfl
    simp only [Dd.D, Dd.row]
    simp [d_law_row, evSs, evS, evE, evT, evL, startE, asgT, padN_zero, biD, pk, pkL, trW, trD, op2W, op2, idxW, eqO, okD, eqD, Out.res, at_0, rcv, smW, hj]
theorem any3 (d a b c : D) : anyD d [a, b, c] = (eqD a d || (eqD b d || (eqD c d || false))) := rfl
theorem eqd_int (a b : Int) : eqD (.int a) (.int b) = (a == b) := rfl
/-! the deed drawn -/
theorem first_seg {t : Tx} (h : NmOk t) : ∃ p r, (sp1 47 [] t).map D.str = .str p :: r ∧ SegOk p := by
  obtain ⟨ss, h1, h2, h3, h4, h5⟩ := h.sp
  cases ss with
  | nil => exact absurd rfl h1
  | cons p r => exact ⟨p, r.map .str, by rw [h4]; rfl, h3 p List.mem_cons_self⟩
abbrev WS11 : List D := [.str WWRITE, .str WWRITE, .str WREN, .str WPART, .str WJOIN, .str WAWAY, .str WBACK, .str WSIGN, .str WFAM, .str WSTR, .str WRENEW]
theorem law_deed {k n : Nat} {l : Loc} (hk : 4 ≤ k) (hv : VS l n) : ∃ d l', cl k f_law_deed [.r n] l = .ok (.d d.D) l' ∧ DdOk d ∧ VG n l l' := by
  obtain ⟨k, rfl⟩ := pos_of (show 1 ≤ k by omega)
  rw [cl_eq (df := d_law_deed) rfl rfl]
  obtain ⟨x, l1, ex, x0, x1, v1⟩ := digit (k := k) (base := 11) (by omega) hv (by omega) (by omega)
  obtain ⟨a, l2, ea, ha, v2⟩ := plain_name (k := k) (by omega) v1.vs
  obtain ⟨b, l3, eb, hb, v3⟩ := plain_name (k := k) (by omega) v2.vs
  obtain ⟨c, l4, ec, hc, v4⟩ := plain_name (k := k) (by omega) v3.vs
  have v := ((v1.trans v2).trans v3).trans v4
  obtain ⟨p, r, hpr, hp⟩ := first_seg hc
  have hsp := sms (u := c) (s := 47) (l := l4) (by have := hc.name.2.1; omega) (by omega)
  rw [hpr] at hsp
  have hml : ∀ l : Loc, mkLst false [W.d (.str WWRITE), .d (.str WWRITE), .d (.str WREN), .d (.str WPART), .d (.str WJOIN), .d (.str WAWAY), .d (.str WBACK), .d (.str WSIGN), .d (.str WFAM), .d (.str WSTR), .d (.str WRENEW)] l = .ok (.d (.lst WS11)) l := fun _ => rfl
  have bl := hb.name.2.1
  have pl := hp.len
  have a1 := add_s (a := b) (b := [35]) (by simp; omega)
  have a2 := add_s (a := b ++ [35]) (b := p) (by simp; omega)
  have a3 : b ++ [35] ++ p = b ++ 35 :: p := by simp
  rw [a3] at a2
  have key : ∀ w : Tx, atD WS11 x = some (.str w) → (w = WWRITE ∨ w = WREN ∨ w = WPART ∨ w = WJOIN ∨ w = WAWAY ∨ w = WBACK ∨ w = WSIGN ∨ w = WFAM ∨ w = WSTR ∨ w = WRENEW) → ∃ d l', (evSs (CF k) d_law_deed.body (startE d_law_deed.nl [W.r n]) l).res = .ok (.d (Dd.D d)) l' ∧ DdOk d ∧ VG n l l' := by
    intro w hw hc
    simp only [WS11] at hw hml
    rcases hc with rfl | rfl | rfl | rfl | rfl | rfl | rfl | rfl | rfl | rfl
    · obtain ⟨t, l5, et, ht, ht2, v5⟩ := text_ (k := k) (by omega) v4.vs
      refine ⟨.wr a t, l5, ?_, ⟨ha, ht, ht2⟩, v.trans v5⟩
      simp [d_law_deed, evSs, evS, evE, evT, evL, evO, evC, Res.bind_ok, Res.bind_exc, Res.bind_bad, Res.out_ok, Res.out_exc, Res.out_bad, Out.thn_nx, Out.thn_rt, Out.thn_exc, Out.thn_bk, Out.thn_ct, ret_some, ret_none, idxW, op2W, pk, pkL, op2, eqO, okD, okL, cmpI, trW, trD, asgT, setMany, modD, fdivD, mulD, subD, retO, setIW, Out.res, biD, isTy, rcv, unW, mk1, mk2, mk3, mk4, mk5, mt1, mt2, mt3, mt4, asgI, walked, stays_no, List.map_map, Function.comp_def, padN_zero, fnCall_f, startE, isO, isNone, inO, inW, slD, itms, small62, wipeE, noExc, unStr, frzW, appW, CF_fn, CF_sub, any2, eqd_str, hml, ex, hw, ea, eb, ec, hsp, at_0, et, Dd.D]
    · refine ⟨.tw WREN a b, l4, ?_, ⟨ha, .inl ⟨.inl rfl, hb⟩⟩, v⟩
      simp [d_law_deed, evSs, evS, evE, evT, evL, evO, evC, Res.bind_ok, Res.bind_exc, Res.bind_bad, Res.out_ok, Res.out_exc, Res.out_bad, Out.thn_nx, Out.thn_rt, Out.thn_exc, Out.thn_bk, Out.thn_ct, ret_some, ret_none, idxW, op2W, pk, pkL, op2, eqO, okD, okL, cmpI, trW, trD, asgT, setMany, modD, fdivD, mulD, subD, retO, setIW, Out.res, biD, isTy, rcv, unW, mk1, mk2, mk3, mk4, mk5, mt1, mt2, mt3, mt4, asgI, walked, stays_no, List.map_map, Function.comp_def, padN_zero, fnCall_f, startE, isO, isNone, inO, inW, slD, itms, small62, wipeE, noExc, unStr, frzW, appW, CF_fn, CF_sub, any2, eqd_str, hml, ex, hw, ea, eb, ec, hsp, at_0, Dd.D, a1, a2, any3]
    · refine ⟨.pt a p b, l4, ?_, ⟨ha, hp, hb⟩, v⟩
      simp [d_law_deed, evSs, evS, evE, evT, evL, evO, evC, Res.bind_ok, Res.bind_exc, Res.bind_bad, Res.out_ok, Res.out_exc, Res.out_bad, Out.thn_nx, Out.thn_rt, Out.thn_exc, Out.thn_bk, Out.thn_ct, ret_some, ret_none, idxW, op2W, pk, pkL, op2, eqO, okD, okL, cmpI, trW, trD, asgT, setMany, modD, fdivD, mulD, subD, retO, setIW, Out.res, biD, isTy, rcv, unW, mk1, mk2, mk3, mk4, mk5, mt1, mt2, mt3, mt4, asgI, walked, stays_no, List.map_map, Function.comp_def, padN_zero, fnCall_f, startE, isO, isNone, inO, inW, slD, itms, small62, wipeE, noExc, unStr, frzW, appW, CF_fn, CF_sub, any2, eqd_str, hml, ex, hw, ea, eb, ec, hsp, at_0, Dd.D, a1, a2]
    · refine ⟨.tw WJOIN a b, l4, ?_, ⟨ha, .inl ⟨.inr (.inl rfl), hb⟩⟩, v⟩
      simp [d_law_deed, evSs, evS, evE, evT, evL, evO, evC, Res.bind_ok, Res.bind_exc, Res.bind_bad, Res.out_ok, Res.out_exc, Res.out_bad, Out.thn_nx, Out.thn_rt, Out.thn_exc, Out.thn_bk, Out.thn_ct, ret_some, ret_none, idxW, op2W, pk, pkL, op2, eqO, okD, okL, cmpI, trW, trD, asgT, setMany, modD, fdivD, mulD, subD, retO, setIW, Out.res, biD, isTy, rcv, unW, mk1, mk2, mk3, mk4, mk5, mt1, mt2, mt3, mt4, asgI, walked, stays_no, List.map_map, Function.comp_def, padN_zero, fnCall_f, startE, isO, isNone, inO, inW, slD, itms, small62, wipeE, noExc, unStr, frzW, appW, CF_fn, CF_sub, any2, eqd_str, hml, ex, hw, ea, eb, ec, hsp, at_0, Dd.D, a1, a2, any3]
    · refine ⟨.on WAWAY a, l4, ?_, ⟨ha, .inl rfl⟩, v⟩
      simp [d_law_deed, evSs, evS, evE, evT, evL, evO, evC, Res.bind_ok, Res.bind_exc, Res.bind_bad, Res.out_ok, Res.out_exc, Res.out_bad, Out.thn_nx, Out.thn_rt, Out.thn_exc, Out.thn_bk, Out.thn_ct, ret_some, ret_none, idxW, op2W, pk, pkL, op2, eqO, okD, okL, cmpI, trW, trD, asgT, setMany, modD, fdivD, mulD, subD, retO, setIW, Out.res, biD, isTy, rcv, unW, mk1, mk2, mk3, mk4, mk5, mt1, mt2, mt3, mt4, asgI, walked, stays_no, List.map_map, Function.comp_def, padN_zero, fnCall_f, startE, isO, isNone, inO, inW, slD, itms, small62, wipeE, noExc, unStr, frzW, appW, CF_fn, CF_sub, any2, eqd_str, hml, ex, hw, ea, eb, ec, hsp, at_0, Dd.D, a1, a2, any3]
    · refine ⟨.on WBACK a, l4, ?_, ⟨ha, .inr (.inl rfl)⟩, v⟩
      simp [d_law_deed, evSs, evS, evE, evT, evL, evO, evC, Res.bind_ok, Res.bind_exc, Res.bind_bad, Res.out_ok, Res.out_exc, Res.out_bad, Out.thn_nx, Out.thn_rt, Out.thn_exc, Out.thn_bk, Out.thn_ct, ret_some, ret_none, idxW, op2W, pk, pkL, op2, eqO, okD, okL, cmpI, trW, trD, asgT, setMany, modD, fdivD, mulD, subD, retO, setIW, Out.res, biD, isTy, rcv, unW, mk1, mk2, mk3, mk4, mk5, mt1, mt2, mt3, mt4, asgI, walked, stays_no, List.map_map, Function.comp_def, padN_zero, fnCall_f, startE, isO, isNone, inO, inW, slD, itms, small62, wipeE, noExc, unStr, frzW, appW, CF_fn, CF_sub, any2, eqd_str, hml, ex, hw, ea, eb, ec, hsp, at_0, Dd.D, a1, a2, any3]
    · obtain ⟨y, l5, ey, y0, y1, v5⟩ := digit (k := k) (base := 2) (by omega) v4.vs (by omega) (by omega)
      by_cases hy : y = 0
      · subst hy
        refine ⟨.tw WSIGN a (b ++ 35 :: p), l5, ?_, ⟨ha, .inr ⟨rfl, .inr ⟨b, p, hb, hp, rfl⟩⟩⟩, v.trans v5⟩
        simp [d_law_deed, evSs, evS, evE, evT, evL, evO, evC, Res.bind_ok, Res.bind_exc, Res.bind_bad, Res.out_ok, Res.out_exc, Res.out_bad, Out.thn_nx, Out.thn_rt, Out.thn_exc, Out.thn_bk, Out.thn_ct, ret_some, ret_none, idxW, op2W, pk, pkL, op2, eqO, okD, okL, cmpI, trW, trD, asgT, setMany, modD, fdivD, mulD, subD, retO, setIW, Out.res, biD, isTy, rcv, unW, mk1, mk2, mk3, mk4, mk5, mt1, mt2, mt3, mt4, asgI, walked, stays_no, List.map_map, Function.comp_def, padN_zero, fnCall_f, startE, isO, isNone, inO, inW, slD, itms, small62, wipeE, noExc, unStr, frzW, appW, CF_fn, CF_sub, any2, eqd_str, hml, ex, hw, ea, eb, ec, hsp, at_0, at_1, Dd.D, a1, a2, any3, ey, eqd_int]
      · have hyb : (y == 0) = false := by simpa using hy
        refine ⟨.tw WSIGN a b, l5, ?_, ⟨ha, .inr ⟨rfl, .inl hb⟩⟩, v.trans v5⟩
        simp [d_law_deed, evSs, evS, evE, evT, evL, evO, evC, Res.bind_ok, Res.bind_exc, Res.bind_bad, Res.out_ok, Res.out_exc, Res.out_bad, Out.thn_nx, Out.thn_rt, Out.thn_exc, Out.thn_bk, Out.thn_ct, ret_some, ret_none, idxW, op2W, pk, pkL, op2, eqO, okD, okL, cmpI, trW, trD, asgT, setMany, modD, fdivD, mulD, subD, retO, setIW, Out.res, biD, isTy, rcv, unW, mk1, mk2, mk3, mk4, mk5, mt1, mt2, mt3, mt4, asgI, walked, stays_no, List.map_map, Function.comp_def, padN_zero, fnCall_f, startE, isO, isNone, inO, inW, slD, itms, small62, wipeE, noExc, unStr, frzW, appW, CF_fn, CF_sub, any2, eqd_str, hml, ex, hw, ea, eb, ec, hsp, at_0, at_1, Dd.D, a1, a2, any3, ey, eqd_int, hyb, hy]
    · refine ⟨.tw WFAM a b, l4, ?_, ⟨ha, .inl ⟨.inr (.inr rfl), hb⟩⟩, v⟩
      simp [d_law_deed, evSs, evS, evE, evT, evL, evO, evC, Res.bind_ok, Res.bind_exc, Res.bind_bad, Res.out_ok, Res.out_exc, Res.out_bad, Out.thn_nx, Out.thn_rt, Out.thn_exc, Out.thn_bk, Out.thn_ct, ret_some, ret_none, idxW, op2W, pk, pkL, op2, eqO, okD, okL, cmpI, trW, trD, asgT, setMany, modD, fdivD, mulD, subD, retO, setIW, Out.res, biD, isTy, rcv, unW, mk1, mk2, mk3, mk4, mk5, mt1, mt2, mt3, mt4, asgI, walked, stays_no, List.map_map, Function.comp_def, padN_zero, fnCall_f, startE, isO, isNone, inO, inW, slD, itms, small62, wipeE, noExc, unStr, frzW, appW, CF_fn, CF_sub, any2, eqd_str, hml, ex, hw, ea, eb, ec, hsp, at_0, Dd.D, a1, a2, any3]
    · refine ⟨.st, l4, ?_, trivial, v⟩
      simp [d_law_deed, evSs, evS, evE, evT, evL, evO, evC, Res.bind_ok, Res.bind_exc, Res.bind_bad, Res.out_ok, Res.out_exc, Res.out_bad, Out.thn_nx, Out.thn_rt, Out.thn_exc, Out.thn_bk, Out.thn_ct, ret_some, ret_none, idxW, op2W, pk, pkL, op2, eqO, okD, okL, cmpI, trW, trD, asgT, setMany, modD, fdivD, mulD, subD, retO, setIW, Out.res, biD, isTy, rcv, unW, mk1, mk2, mk3, mk4, mk5, mt1, mt2, mt3, mt4, asgI, walked, stays_no, List.map_map, Function.comp_def, padN_zero, fnCall_f, startE, isO, isNone, inO, inW, slD, itms, small62, wipeE, noExc, unStr, frzW, appW, CF_fn, CF_sub, any2, eqd_str, hml, ex, hw, ea, eb, ec, hsp, at_0, Dd.D, a1, a2]
    · refine ⟨.on WRENEW a, l4, ?_, ⟨ha, .inr (.inr rfl)⟩, v⟩
      simp [d_law_deed, evSs, evS, evE, evT, evL, evO, evC, Res.bind_ok, Res.bind_exc, Res.bind_bad, Res.out_ok, Res.out_exc, Res.out_bad, Out.thn_nx, Out.thn_rt, Out.thn_exc, Out.thn_bk, Out.thn_ct, ret_some, ret_none, idxW, op2W, pk, pkL, op2, eqO, okD, okL, cmpI, trW, trD, asgT, setMany, modD, fdivD, mulD, subD, retO, setIW, Out.res, biD, isTy, rcv, unW, mk1, mk2, mk3, mk4, mk5, mt1, mt2, mt3, mt4, asgI, walked, stays_no, List.map_map, Function.comp_def, padN_zero, fnCall_f, startE, isO, isNone, inO, inW, slD, itms, small62, wipeE, noExc, unStr, frzW, appW, CF_fn, CF_sub, any2, eqd_str, hml, ex, hw, ea, eb, ec, hsp, at_0, Dd.D, a1, a2, any3]
  have hx : x = 0 ∨ x = 1 ∨ x = 2 ∨ x = 3 ∨ x = 4 ∨ x = 5 ∨ x = 6 ∨ x = 7 ∨ x = 8 ∨ x = 9 ∨ x = 10 := by omega
  rcases hx with rfl | rfl | rfl | rfl | rfl | rfl | rfl | rfl | rfl | rfl | rfl
  · exact key WWRITE rfl (by simp)
  · exact key WWRITE rfl (by simp)
  · exact key WREN rfl (by simp)
  · exact key WPART rfl (by simp)
  · exact key WJOIN rfl (by simp)
  · exact key WAWAY rfl (by simp)
  · exact key WBACK rfl (by simp)
  · exact key WSIGN rfl (by simp)
  · exact key WFAM rfl (by simp)
  · exact key WSTR rfl (by simp)
  · exact key WRENEW rfl (by simp)
end Vx

set_option maxHeartbeats 400000
namespace Vx
open PySem L2
/-! a deed handed in other writing -/
theorem lc_rel {ee : Env → Loc → Res W} {ec : Env → Loc → Res Bool} {i : Nat} {ρ : Env} {R : Tx → Tx → Prop} {P : Loc → Prop} (hc : ∀ ρ l, ec ρ l = .ok true l) :
    ∀ (xs : List Tx) (l : Loc), (∀ x ∈ xs, ∀ l, P l → ∃ s l', ee (ρ.set i (some (.d (.str x)))) l = .ok (.d (.str s)) l' ∧ R x s ∧ P l') → P l → ∃ (ss : List Tx) (l' : Loc), lcGo (fun _ => True) ec ee (.n i) (xs.map fun x => Itm.one (.d (.str x))) ρ l = .ok (ss.map fun s => W.d (.str s)) l' ∧ All2 R xs ss ∧ P l'
  | [], l, _, hp => ⟨[], l, by simp [lcGo], .nil, hp⟩
  | x :: xs, l, h, hp => by
    obtain ⟨s, l1, e1, r1, p1⟩ := h x List.mem_cons_self l hp
    obtain ⟨ss, l2, e2, r2, p2⟩ := lc_rel hc xs l1 (fun y hy => h y (List.mem_cons_of_mem _ hy)) p1
    refine ⟨s :: ss, l2, ?_, .cons r1 r2, p2⟩
    rw [List.map_cons]
    unfold lcGo
    rw [if_pos trivial]
    simp only [asgI, asgT, ret_some, Res.bind_ok, hc, e1, e2, List.map_cons]
def PlC (x : Tx) : Prop := (∀ c ∈ x, okC1 c) ∧ x.length ≤ 24
theorem NmOk.pl {x : Tx} (h : NmOk x) : PlC x := ⟨h.name.2.2, h.name.2.1⟩
theorem SegOk.pl {x : Tx} (h : SegOk x) : PlC x := ⟨okN1_C h.chars, by have := h.len; omega⟩
theorem hd_e {k n : Nat} {l : Loc} {x : Tx} {a b c : Option W} (hk : 3 ≤ k) (hx : PlC x) (hv : VS l n) : ∃ s l', evE (CF k) e_law_handed_0 [a, some (.r n), b, c, some (.d (.str x))] l = .ok (.d (.str s)) l' ∧ Wr x s ∧ VG n l l' := by
  obtain ⟨pre, o, suf, l1, e, h1, h2, h3, h4, v⟩ := otherwise (k := k) (nm := x) hk hv hx.2 fun c hc => okC1_lt (hx.1 c hc)
  exact ⟨_, l1, by simp [e_law_handed_0, evE, evL, padN_zero, fnCall_f, e], wr_of hx.1 h1 h2 h3 h4, v⟩
theorem all2_len {α β : Type} {R : α → β → Prop} : ∀ {as : List α} {bs : List β}, All2 R as bs → as.length = bs.length
  | _, _, .nil => rfl
  | _, _, .cons _ t => congrArg Nat.succ (all2_len t)
theorem all2_len50 : ∀ {as bs : List Tx}, All2 Wr as bs → (bs.map List.length).sum ≤ 50 * bs.length
  | _, _, .nil => by simp
  | _, _, .cons h t => by
    have := all2_len50 t
    have := h.len
    simp only [List.map_cons, List.sum_cons, List.length_cons]
    omega
theorem hd_b {k n m : Nat} {l0 l : Loc} {ds : List D} {w x : Tx} {i : Int} {ws : List W} {a : Option W} (hk : 3 ≤ k) (hv : VG n l0 l) (hm : l0.length ≤ m) (hmn : m ≠ n) (hl : l[m]? = some (.lst ws)) (hz : ws.length ≤ 10) (h0 : atD ds 0 = some (.str w)) (hi : atD ds i = some (.str x)) (hc : w ≠ WWRITE ∨ i ≠ 2)
    (hx : ∀ y ∈ sp1 35 [] x, PlC y) (hxl : x.length ≤ 60) : ∃ ys l', evSs (CF k) b_law_handed_0 [some (.d (.tup ds)), some (.r n), some (.r m), some (.d (.int i)), a] l = .nx [some (.d (.tup ds)), some (.r n), some (.r m), some (.d (.int i)), a] l' ∧ All2 Wr (sp1 35 [] x) ys ∧ VG n l0 l' ∧ l'[m]? = some (.lst (ws ++ [.d (.str (TL.joinL [35] ys))])) := by
  have hsp := sms (u := x) (s := 35) (l := l) (by omega) (by omega)
  obtain ⟨ys, l1, e1, r1, v1⟩ := lc_rel (i := 4) (ρ := [some (.d (.tup ds)), some (.r n), some (.r m), some (.d (.int i)), none]) (ec := evC (CF k) .nil) (ee := evE (CF k) e_law_handed_0) (P := VG n l) (R := Wr) (fun ρ l => rfl) (sp1 35 [] x) l (fun y hy l2 hv => by
    obtain ⟨s, l3, e3, r3, v3⟩ := hd_e (k := k) (a := some (.d (.tup ds))) (b := some (.r m)) (c := some (.d (.int i))) hk (hx y hy) hv.vs
    exact ⟨s, l3, e3, r3, hv.trans v3⟩) (VG.refl hv.vs)
  have hcnt := sp1_count (s := 35) (l := x) (acc := [])
  have hlen := all2_len r1
  have hsum := all2_len50 r1
  have hm1 := mkl (xs := ys) (l := l1) (by omega)
  have hj := smjD (xs := ys) (sep := [35]) (by simp; omega)
  have hl1 := v1.keep hmn hl
  have hml : m < l1.length := (List.getElem?_eq_some_iff.mp hl1).1
  have hz2 : ws.length < 16777216 := by omega
  have sm1 : ∀ ws l, smW .append (.r m) ws l = (match ws with
    | [w] => (ret (appW l m w) l).bind fun l _ => .ok (.d .non) l
    | _ => .bad) := fun ws l => by
    cases ws with
    | nil => rfl
    | cons a r => cases r <;> rfl
  have sm2 : smW .join (.d (.str [35])) [.d (.lst (ys.map fun s => .str s))] l1 = .ok (.d (.str (TL.joinL [35] ys))) l1 := smj (xs := ys) (sep := [35]) (by simp; omega)
  refine ⟨ys, l1.set m (.lst (ws ++ [.d (.str (TL.joinL [35] ys))])), ?_, r1, (hv.trans v1).put hm hmn, by simp [hml]⟩
  by_cases hw : w = WWRITE
  · have hi2 : i ≠ 2 := hc.resolve_left (fun h => h hw)
    have hi2b : (i == 2) = false := by simpa using hi2
    subst hw
    simp [b_law_handed_0, evSs, evS, evE, evT, evL, padN_zero, op2W, pk, op2, eqO, okD, eqd_str, eqd_int, idxW, h0, hi, trW, trD, hi2b, hi2, rcv, hl, hsp, itms, walked, stays_no, List.map_map, Function.comp_def, noExc, wipeE, e1, hm1, sm1, sm2, appW, hl1, hz2]
  · have hwb : (w == WWRITE) = false := by simpa using hw
    simp [b_law_handed_0, evSs, evS, evE, evT, evL, padN_zero, op2W, pk, op2, eqO, okD, eqd_str, eqd_int, idxW, h0, hi, trW, trD, hwb, rcv, hl, hsp, itms, walked, stays_no, List.map_map, Function.comp_def, noExc, wipeE, e1, hm1, sm1, sm2, appW, hl1, hz2]
theorem hd_bw {k n m : Nat} {l0 l : Loc} {a t : Tx} {ws : List W} {o : Option W} (hv : VG n l0 l) (hm : l0.length ≤ m) (hmn : m ≠ n) (hl : l[m]? = some (.lst ws)) (hz : ws.length ≤ 10) :
    ∃ l', evSs (CF k) b_law_handed_0 [some (.d (.tup [.str WWRITE, .str a, .str t])), some (.r n), some (.r m), some (.d (.int 2)), o] l = .nx [some (.d (.tup [.str WWRITE, .str a, .str t])), some (.r n), some (.r m), some (.d (.int 2)), o] l' ∧ VG n l0 l' ∧ l'[m]? = some (.lst (ws ++ [.d (.str t)])) := by
  have hml : m < l.length := (List.getElem?_eq_some_iff.mp hl).1
  have hz2 : ws.length < 16777216 := by omega
  refine ⟨l.set m (.lst (ws ++ [.d (.str t)])), ?_, hv.put hm hmn, by simp [hml]⟩
  simp [b_law_handed_0, evSs, evS, evE, evT, evL, op2W, pk, op2, eqO, okD, eqd_str, eqd_int, idxW, at_0, at_2, trW, trD, rcv, hl, smW, appW, hz2]
theorem go_step {eb : Env → Loc → Out} {i : Nat} {w : W} {ds : List Itm} {ρ ρ2 : Env} {l l2 : Loc} (h : eb (ρ.set i (some w)) l = .nx ρ2 l2) : forGo (fun _ => True) eb (.n i) (Itm.one w :: ds) ρ l = forGo (fun _ => True) eb (.n i) ds ρ2 l2 := by
  conv => lhs; unfold forGo
  rw [if_pos trivial]
  simp only [asgI, asgT, h]
theorem go_nil {eb : Env → Loc → Out} {i : Nat} {ρ : Env} {l : Loc} : forGo (fun _ => True) eb (.n i) [] ρ l = .nx ρ l := by
  unfold forGo
  rw [if_pos trivial]
theorem all2_1 {x : Tx} {ys : List Tx} (h : All2 Wr [x] ys) : ∃ y, ys = [y] ∧ Wr x y := by
  cases h with
  | cons h t => cases t; exact ⟨_, rfl, h⟩
theorem all2_2 {x z : Tx} {ys : List Tx} (h : All2 Wr [x, z] ys) : ∃ y u, ys = [y, u] ∧ Wr x y ∧ Wr z u := by
  cases h with
  | cons h t =>
    obtain ⟨u, rfl, h2⟩ := all2_1 t
    exact ⟨_, u, rfl, h, h2⟩
theorem pl_W {x : Tx} (h : PlC x) : ∀ c ∈ x, okW c := fun c hc => by
  rcases h.1 c hc with (h | rfl) | rfl
  · exact .inl h
  · exact .inr (.inr (.inl (by decide)))
  · exact .inr (.inr (.inr rfl))
/-- what is joined of the pieces of a plain name -/
theorem hd_b1 {k n m : Nat} {l0 l : Loc} {ds : List D} {w x : Tx} {i : Int} {ws : List W} {a : Option W} (hk : 3 ≤ k) (hv : VG n l0 l) (hm : l0.length ≤ m) (hmn : m ≠ n) (hl : l[m]? = some (.lst ws)) (hz : ws.length ≤ 10) (h0 : atD ds 0 = some (.str w)) (hi : atD ds i = some (.str x)) (hc : w ≠ WWRITE ∨ i ≠ 2) (hx : PlC x) :
    ∃ y l', evSs (CF k) b_law_handed_0 [some (.d (.tup ds)), some (.r n), some (.r m), some (.d (.int i)), a] l = .nx [some (.d (.tup ds)), some (.r n), some (.r m), some (.d (.int i)), a] l' ∧ Wr x y ∧ VG n l0 l' ∧ l'[m]? = some (.lst (ws ++ [.d (.str y)])) := by
  have e := sp35 (pl_W hx)
  obtain ⟨ys, l', e1, r, v, h⟩ := hd_b (k := k) (a := a) hk hv hm hmn hl hz h0 hi hc (fun y hy => by rw [e, List.mem_singleton] at hy; subst hy; exact hx) (by have := hx.2; omega)
  rw [e] at r
  obtain ⟨y, rfl, hw⟩ := all2_1 r
  exact ⟨y, l', e1, hw, v, h⟩
theorem hd_bt {k n m : Nat} {l0 l : Loc} {ds : List D} {w x : Tx} {i : Int} {ws : List W} {a : Option W} (hk : 3 ≤ k) (hv : VG n l0 l) (hm : l0.length ≤ m) (hmn : m ≠ n) (hl : l[m]? = some (.lst ws)) (hz : ws.length ≤ 10) (h0 : atD ds 0 = some (.str w)) (hi : atD ds i = some (.str x)) (hc : w ≠ WWRITE ∨ i ≠ 2) (hx : To x) :
    ∃ y l', evSs (CF k) b_law_handed_0 [some (.d (.tup ds)), some (.r n), some (.r m), some (.d (.int i)), a] l = .nx [some (.d (.tup ds)), some (.r n), some (.r m), some (.d (.int i)), a] l' ∧ ToW x y ∧ VG n l0 l' ∧ l'[m]? = some (.lst (ws ++ [.d (.str y)])) := by
  rcases hx with hx | ⟨c, p, h1, h2, rfl⟩
  · obtain ⟨y, l', e1, hw, v, h⟩ := hd_b1 (k := k) (a := a) hk hv hm hmn hl hz h0 hi hc hx.pl
    exact ⟨y, l', e1, .inl ⟨hx, hw⟩, v, h⟩
  · have e := sp35_2 (pl_W h1.pl) (pl_W h2.pl)
    obtain ⟨ys, l', e1, r, v, h⟩ := hd_b (k := k) (a := a) hk hv hm hmn hl hz h0 hi hc (fun y hy => by
      rw [e] at hy
      rcases List.mem_cons.mp hy with rfl | hy
      · exact h1.pl
      · rw [List.mem_singleton.mp hy]; exact h2.pl) (by have := h1.pl.2; have := h2.len; simp; omega)
    rw [e] at r
    obtain ⟨y, u, rfl, hw, hw2⟩ := all2_2 r
    exact ⟨_, l', e1, .inr ⟨c, p, y, u, h1, h2, rfl, hw, hw2, rfl⟩, v, h⟩
theorem hd_end {k n : Nat} {l0 l1 : Loc} {d : Dd} {ds : List D} {w : Tx} (hd : d.D = .tup ds) (h0 : atD ds 0 = some (.str w)) {xs : List Itm} {ws : List W} {es : List D} {a : Option W} (hs : itms (l0 ++ [Obj.lst [W.d (.str w)]]) .rng2 [.d (.int 1), .d (.int (ds.length : Int))] = some xs)
    (hg : forGo (fun _ => True) (evSs (CF k) b_law_handed_0) (.n 3) xs [some (.d (.tup ds)), some (.r n), some (.r l0.length), none, none] (l0 ++ [Obj.lst [W.d (.str w)]]) = .nx [some (.d (.tup ds)), some (.r n), some (.r l0.length), a, none] l1) (hl : l1[l0.length]? = some (.lst ws)) (hu : unW ws = some es) :
    cl (k + 1) f_law_handed [.d d.D, .r n] l0 = .ok (.d (.tup es)) l1 := by
  rw [cl_eq (df := d_law_handed) rfl rfl, hd]
  simp [d_law_handed, evSs, evS, evE, evL, startE, asgT, idxW, h0, mkm, biD, pk, hs, walked, stays_no, hg, hl, hu, Out.res]
theorem law_handed {k n : Nat} {l : Loc} {d : Dd} (hk : 4 ≤ k) (hv : VS l n) (h : DdOk d) : ∃ d' l', cl k f_law_handed [.d d.D, .r n] l = .ok (.d d'.D) l' ∧ Hd d d' ∧ VG n l l' := by
  obtain ⟨k, rfl⟩ := pos_of (show 1 ≤ k by omega)
  have hn := hv.lt
  have hmn : l.length ≠ n := by omega
  have st : ∀ w : Tx, VG n l (l ++ [Obj.lst [W.d (.str w)]]) ∧ (l ++ [Obj.lst [W.d (.str w)]])[l.length]? = some (.lst [W.d (.str w)]) := fun w => ⟨(VG.refl hv).app, by simp⟩
  cases d with
  | wr a t =>
    obtain ⟨v0, h0⟩ := st WWRITE
    obtain ⟨a', l1, e1, w1, v1, h1⟩ := hd_b1 (k := k) (i := 1) (ds := [.str WWRITE, .str a, .str t]) (w := WWRITE) (x := a) (a := none) (by omega) v0 (Nat.le_refl _) hmn h0 (by simp) rfl rfl (.inr (by decide)) h.1.pl
    obtain ⟨l2, e2, v2, h2⟩ := hd_bw (k := k) (a := a) (t := t) (o := none) v1 (Nat.le_refl _) hmn h1 (by simp)
    refine ⟨.wr a' t, l2, hd_end (d := .wr a t) (w := WWRITE) rfl rfl (xs := [Itm.one (.d (.int 1)), Itm.one (.d (.int 2))]) rfl (a := some (.d (.int 2))) ?_ h2 rfl, ⟨w1, rfl⟩, v2⟩
    rw [go_step e1, go_step e2, go_nil]
  | tw w a b =>
    obtain ⟨v0, h0⟩ := st w
    have hnw : w ≠ WWRITE := by
      rcases h.2 with ⟨rfl | rfl | rfl, _⟩ | ⟨rfl, _⟩ <;> decide
    obtain ⟨a', l1, e1, w1, v1, h1⟩ := hd_b1 (k := k) (i := 1) (ds := [.str w, .str a, .str b]) (w := w) (x := a) (a := none) (by omega) v0 (Nat.le_refl _) hmn h0 (by simp) rfl rfl (.inl hnw) h.1.pl
    rcases h.2 with ⟨hw, hb⟩ | ⟨hw, hb⟩
    · obtain ⟨b', l2, e2, w2, v2, h2⟩ := hd_b1 (k := k) (i := 2) (ds := [.str w, .str a, .str b]) (w := w) (x := b) (a := none) (by omega) v1 (Nat.le_refl _) hmn h1 (by simp) rfl rfl (.inl hnw) hb.pl
      refine ⟨.tw w a' b', l2, hd_end (d := .tw w a b) (w := w) rfl rfl (xs := [Itm.one (.d (.int 1)), Itm.one (.d (.int 2))]) rfl (a := some (.d (.int 2))) ?_ h2 rfl, ⟨rfl, w1, .inl ⟨tw_nsg hw, w2⟩⟩, v2⟩
      rw [go_step e1, go_step e2, go_nil]
    · obtain ⟨b', l2, e2, w2, v2, h2⟩ := hd_bt (k := k) (i := 2) (ds := [.str w, .str a, .str b]) (w := w) (x := b) (a := none) (by omega) v1 (Nat.le_refl _) hmn h1 (by simp) rfl rfl (.inl hnw) hb
      refine ⟨.tw w a' b', l2, hd_end (d := .tw w a b) (w := w) rfl rfl (xs := [Itm.one (.d (.int 1)), Itm.one (.d (.int 2))]) rfl (a := some (.d (.int 2))) ?_ h2 rfl, ⟨rfl, w1, .inr ⟨hw, w2⟩⟩, v2⟩
      rw [go_step e1, go_step e2, go_nil]
  | pt a p b =>
    obtain ⟨v0, h0⟩ := st WPART
    obtain ⟨a', l1, e1, w1, v1, h1⟩ := hd_b1 (k := k) (i := 1) (ds := [.str WPART, .str a, .str p, .str b]) (w := WPART) (x := a) (a := none) (by omega) v0 (Nat.le_refl _) hmn h0 (by simp) rfl rfl (.inl (by decide)) h.1.pl
    obtain ⟨p', l2, e2, w2, v2, h2⟩ := hd_b1 (k := k) (i := 2) (ds := [.str WPART, .str a, .str p, .str b]) (w := WPART) (x := p) (a := none) (by omega) v1 (Nat.le_refl _) hmn h1 (by simp) rfl rfl (.inl (by decide)) h.2.1.pl
    obtain ⟨b', l3, e3, w3, v3, h3⟩ := hd_b1 (k := k) (i := 3) (ds := [.str WPART, .str a, .str p, .str b]) (w := WPART) (x := b) (a := none) (by omega) v2 (Nat.le_refl _) hmn h2 (by simp) rfl rfl (.inl (by decide)) h.2.2.pl
    refine ⟨.pt a' p' b', l3, hd_end (d := .pt a p b) (w := WPART) rfl rfl (xs := [Itm.one (.d (.int 1)), Itm.one (.d (.int 2)), Itm.one (.d (.int 3))]) rfl (a := some (.d (.int 3))) ?_ h3 rfl, ⟨w1, w2, w3⟩, v3⟩
    rw [go_step e1, go_step e2, go_step e3, go_nil]
  | on w a =>
    obtain ⟨v0, h0⟩ := st w
    have hnw : w ≠ WWRITE := by
      rcases h.2 with rfl | rfl | rfl <;> decide
    obtain ⟨a', l1, e1, w1, v1, h1⟩ := hd_b1 (k := k) (i := 1) (ds := [.str w, .str a]) (w := w) (x := a) (a := none) (by omega) v0 (Nat.le_refl _) hmn h0 (by simp) rfl rfl (.inl hnw) h.1.pl
    refine ⟨.on w a', l1, hd_end (d := .on w a) (w := w) rfl rfl (xs := [Itm.one (.d (.int 1))]) rfl (a := some (.d (.int 1))) ?_ h1 rfl, ⟨rfl, w1⟩, v1⟩
    rw [go_step e1, go_nil]
  | st =>
    obtain ⟨v0, h0⟩ := st WSTR
    refine ⟨.st, _, hd_end (d := .st) (w := WSTR) rfl rfl (xs := []) rfl (a := none) ?_ h0 rfl, trivial, v0⟩
    rw [go_nil]
end Vx

set_option maxHeartbeats 400000
namespace Vx
open PySem L2
theorem row_hd {k : Nat} {d d' : Dd} {l : Loc} (hk : 6 ≤ k) (h : DdOk d) (w : Hd d d') : cl k f_deed_row [.d d'.D] l = .ok (.d (.str d.row)) l := by
  cases d <;> cases d' <;> first | (exact w.elim) | skip
  · obtain ⟨w1, rfl⟩ := w
    exact row_wr hk (h.1.wn w1) h.2.1
  · obtain ⟨rfl, w1, w2⟩ := w
    rcases h.2 with ⟨hw, hb⟩ | ⟨rfl, hb⟩
    · rcases w2 with ⟨_, w2⟩ | ⟨w2, _⟩
      · exact row_tw hk hw (h.1.wn w1) (hb.wn w2)
      · exact absurd w2 (tw_nsg hw)
    · rcases w2 with ⟨w2, _⟩ | ⟨_, w2⟩
      · exact absurd rfl w2
      · exact row_sg hk (h.1.wn w1) w2.wt.1
  · obtain ⟨w1, w2, w3⟩ := w
    exact row_pt hk (h.1.wn w1) (h.2.1.wp w2) (h.2.2.wn w3)
  · obtain ⟨rfl, w1⟩ := w
    exact row_on hk h.2 (h.1.wn w1)
  · exact row_st hk
/-! rows refused -/
theorem rb_text {k : Nat} {a : Tx} {x : D} {l : Loc} (hk : 6 ≤ k) (h : NmOk a) (hx : BadX x) (ho : okD 11 x = true) : cl k f_deed_row [.d (.tup [.str WWRITE, .str a, x])] l = .exc 2 .non l := by
  obtain ⟨k, rfl⟩ := pos_of (show 1 ≤ k by omega)
  rw [cl_eq (df := d_deed_row) rfl rfl]
  have c := check_ok (k := k) (w := WWRITE) (as := [.str a, x]) (l := l) (by omega) rfl (by simp [okL, okD, ho])
  have e1 := name_w (k := k) (l := l) (by omega) (h.wn (wr_self h.pl.1 (by have := h.pl.2; omega)))
  have e2 := tx_bad (k := k) (l := l) (by omega) hx
  have hl := h.pl.2
  have a1 := add_s (a := [119, 114, 105, 116, 101, 32]) (b := a) (by simp; omega)
  have a2 := add_s (a := [119, 114, 105, 116, 101, 32] ++ a) (b := [58, 32]) (by simp; omega)
  generalize hz2 : [119, 114, 105, 116, 101, 32] ++ a = x2 at *
  simp [d_deed_row, evSs, evS, evE, evT, evL, startE, asgT, padN_zero, biD, pk, trW, trD, op2W, op2, idxW, eqO, okD, eqD, Out.res, c, at_0, at_1, at_2, e1, e2, a1, a2]
/-- the second word is no name -/
theorem rb_name {k : Nat} {w : Tx} {x : D} {as : List D} {l : Loc} (hk : 6 ≤ k) (hs : size w = some ((as.length : Int) + 2)) (hx : BadN x) (ho : okL 11 (x :: as) = true) : cl k f_deed_row [.d (.tup (.str w :: x :: as))] l = .exc 1 .non l := by
  obtain ⟨k, rfl⟩ := pos_of (show 1 ≤ k by omega)
  rw [cl_eq (df := d_deed_row) rfl rfl]
  have c := check_ok (k := k) (w := w) (as := x :: as) (l := l) (by omega) (by rw [hs]; simp; omega) ho
  have e1 := name_bad (k := k) (l := l) (by omega) hx
  have h1 : ((as.length : Int) + 1 + 1 == 1) = false := by rw [beq_eq_false_iff_ne]; omega
  by_cases n1 : w = WWRITE
  · subst n1
    simp [d_deed_row, evSs, evS, evE, evT, evL, startE, asgT, padN_zero, biD, pk, trW, trD, op2W, op2, idxW, eqO, okD, eqd_str, eqd_int, Out.res, c, at_0, at_1, e1]
  · have n1b : (w == WWRITE) = false := by simpa using n1
    by_cases n2 : w = WPART
    · subst n2
      simp [d_deed_row, evSs, evS, evE, evT, evL, startE, asgT, padN_zero, biD, pk, trW, trD, op2W, op2, idxW, eqO, okD, eqd_str, eqd_int, Out.res, c, at_0, at_1, e1]
    · have n2b : (w == WPART) = false := by simpa using n2
      by_cases n3 : w = WSIGN
      · subst n3
        simp [d_deed_row, evSs, evS, evE, evT, evL, startE, asgT, padN_zero, biD, pk, trW, trD, op2W, op2, idxW, eqO, okD, eqd_str, eqd_int, Out.res, c, at_0, at_1, e1]
      · have n3b : (w == WSIGN) = false := by simpa using n3
        have wl : w.length ≤ 8 := by
          unfold size at hs
          cases q : szs.find? (fun q => q.1 == w) with
          | none => rw [q] at hs; cases hs
          | some r =>
            have h2 := List.find?_some q
            have h3 := List.mem_of_find?_eq_some q
            have h4 : r.1 = w := by simpa using h2
            have : ∀ r ∈ szs, r.1.length ≤ 8 := by decide
            rw [← h4]
            exact this r h3
        have a1 := add_s (a := w) (b := [32]) (by simp; omega)
        cases h2 : ((as.length : Int) + 1 + 1 == 2) with
        | true => simp [d_deed_row, evSs, evS, evE, evT, evL, startE, asgT, padN_zero, biD, pk, trW, trD, op2W, op2, idxW, eqO, okD, eqd_str, eqd_int, Out.res, c, at_0, at_1, e1, n1b, n2b, n3b, h1, h2, a1]
        | false => simp [d_deed_row, evSs, evS, evE, evT, evL, startE, asgT, padN_zero, biD, pk, trW, trD, op2W, op2, idxW, eqO, okD, eqd_str, eqd_int, Out.res, c, at_0, at_1, e1, n1b, n2b, n3b, h1, h2, a1]
theorem wn_self {a : Tx} (h : NmOk a) : Wn a a := h.wn (wr_self h.pl.1 (by have := h.pl.2; omega))
theorem wp_self {a : Tx} (h : SegOk a) : Wp a a := h.wp (wr_self h.pl.1 (by have := h.pl.2; omega))
theorem rb_tw {k : Nat} {w a : Tx} {x : D} {l : Loc} (hk : 6 ≤ k) (hw : w = WREN ∨ w = WJOIN ∨ w = WFAM) (h : NmOk a) (hx : BadN x) (ho : okD 11 x = true) : cl k f_deed_row [.d (.tup [.str w, .str a, x])] l = .exc 1 .non l := by
  obtain ⟨k, rfl⟩ := pos_of (show 1 ≤ k by omega)
  rw [cl_eq (df := d_deed_row) rfl rfl]
  have hs : size w = some 3 := by rcases hw with rfl | rfl | rfl <;> rfl
  have c := check_ok (k := k) (w := w) (as := [.str a, x]) (l := l) (by omega) hs (by simp [okL, okD, ho])
  have e1 := name_w (k := k) (l := l) (by omega) (wn_self h)
  have e2 := name_bad (k := k) (l := l) (by omega) hx
  have hl := h.pl.2
  have w1 : w.length ≤ 6 := by rcases hw with rfl | rfl | rfl <;> decide
  have n1 : (w == WWRITE) = false := by rcases hw with rfl | rfl | rfl <;> rfl
  have n2 : (w == WPART) = false := by rcases hw with rfl | rfl | rfl <;> rfl
  have n3 : (w == WSIGN) = false := by rcases hw with rfl | rfl | rfl <;> rfl
  have a1 := add_s (a := w) (b := [32]) (by simp; omega)
  have a2 := add_s (a := w ++ [32]) (b := a) (by simp; omega)
  have a3 := add_s (a := w ++ [32] ++ a) (b := [32, 62, 32]) (by simp; omega)
  generalize hz1 : w ++ [32] = x1 at *
  generalize hz2 : x1 ++ a = x2 at *
  simp [d_deed_row, evSs, evS, evE, evT, evL, startE, asgT, padN_zero, biD, pk, trW, trD, op2W, op2, idxW, eqO, okD, eqD, Out.res, c, at_0, at_1, at_2, e1, e2, n1, n2, n3, a1, a2, a3]
theorem rb_sg {k : Nat} {a : Tx} {x : D} {l : Loc} (hk : 6 ≤ k) (h : NmOk a) (hx : BadT x) (ho : okD 11 x = true) : cl k f_deed_row [.d (.tup [.str WSIGN, .str a, x])] l = .exc 1 .non l := by
  obtain ⟨k, rfl⟩ := pos_of (show 1 ≤ k by omega)
  rw [cl_eq (df := d_deed_row) rfl rfl]
  have c := check_ok (k := k) (w := WSIGN) (as := [.str a, x]) (l := l) (by omega) rfl (by simp [okL, okD, ho])
  have e1 := name_w (k := k) (l := l) (by omega) (wn_self h)
  have e2 := onward_bad (k := k) (l := l) (by omega) hx
  have hl := h.pl.2
  have a2 := add_s (a := [115, 105, 103, 110, 32]) (b := a) (by simp; omega)
  have a3 := add_s (a := [115, 105, 103, 110, 32] ++ a) (b := [32, 62, 32]) (by simp; omega)
  generalize hz2 : [115, 105, 103, 110, 32] ++ a = x2 at *
  simp [d_deed_row, evSs, evS, evE, evT, evL, startE, asgT, padN_zero, biD, pk, trW, trD, op2W, op2, idxW, eqO, okD, eqD, Out.res, c, at_0, at_1, at_2, e1, e2, a2, a3]
theorem rb_pt2 {k : Nat} {a b : Tx} {x : D} {l : Loc} (hk : 6 ≤ k) (h : NmOk a) (hx : BadP x) (ho : okD 11 x = true) : cl k f_deed_row [.d (.tup [.str WPART, .str a, x, .str b])] l = .exc 1 .non l := by
  obtain ⟨k, rfl⟩ := pos_of (show 1 ≤ k by omega)
  rw [cl_eq (df := d_deed_row) rfl rfl]
  have c := check_ok (k := k) (w := WPART) (as := [.str a, x, .str b]) (l := l) (by omega) rfl (by simp [okL, okD, ho])
  have e1 := name_w (k := k) (l := l) (by omega) (wn_self h)
  have e2 := part_bad (k := k) (l := l) (by omega) hx
  have hl := h.pl.2
  have a1 := add_s (a := [112, 97, 114, 116, 32]) (b := a) (by simp; omega)
  have a2 := add_s (a := [112, 97, 114, 116, 32] ++ a) (b := [32, 35, 32]) (by simp; omega)
  generalize hz2 : [112, 97, 114, 116, 32] ++ a = x2 at *
  simp [d_deed_row, evSs, evS, evE, evT, evL, startE, asgT, padN_zero, biD, pk, trW, trD, op2W, op2, idxW, eqO, okD, eqD, Out.res, c, at_0, at_1, at_2, e1, e2, a1, a2]
theorem rb_pt3 {k : Nat} {a p : Tx} {x : D} {l : Loc} (hk : 6 ≤ k) (h : NmOk a) (h1 : SegOk p) (hx : BadN x) (ho : okD 11 x = true) : cl k f_deed_row [.d (.tup [.str WPART, .str a, .str p, x])] l = .exc 1 .non l := by
  obtain ⟨k, rfl⟩ := pos_of (show 1 ≤ k by omega)
  rw [cl_eq (df := d_deed_row) rfl rfl]
  have c := check_ok (k := k) (w := WPART) (as := [.str a, .str p, x]) (l := l) (by omega) rfl (by simp [okL, okD, ho])
  have e1 := name_w (k := k) (l := l) (by omega) (wn_self h)
  have e2 := part_w (k := k) (l := l) (by omega) (wp_self h1)
  have e3 := name_bad (k := k) (l := l) (by omega) hx
  have hl := h.pl.2
  have hl1 := h1.len
  have a1 := add_s (a := [112, 97, 114, 116, 32]) (b := a) (by simp; omega)
  have a2 := add_s (a := [112, 97, 114, 116, 32] ++ a) (b := [32, 35, 32]) (by simp; omega)
  have a3 := add_s (a := [112, 97, 114, 116, 32] ++ a ++ [32, 35, 32]) (b := p) (by simp; omega)
  have a4 := add_s (a := [112, 97, 114, 116, 32] ++ a ++ [32, 35, 32] ++ p) (b := [32, 62, 32]) (by simp; omega)
  have at3 : atD [D.str WPART, D.str a, D.str p, x] 3 = some x := rfl
  generalize hz2 : [112, 97, 114, 116, 32] ++ a = x2 at *
  generalize hz3 : x2 ++ [32, 35, 32] = x3 at *
  generalize hz4 : x3 ++ p = x4 at *
  simp [d_deed_row, evSs, evS, evE, evT, evL, startE, asgT, padN_zero, biD, pk, trW, trD, op2W, op2, idxW, eqO, okD, eqD, Out.res, c, at_0, at_1, at_2, at3, e1, e2, e3, a1, a2, a3, a4]
/-! what is spoilt -/
def V401 : Tx := List.replicate 401 118
def A25 : Tx := List.replicate 25 97
abbrev TX4 : List D := [.str V401, .non, .int 5, .tup [.str [97]]]
abbrev BD6 : List D := [.str [], .str [97, 47, 47, 98], .str [120, 46, 121], .non, .str A25, .lst [.str [97]]]
abbrev BD5 : List D := [.str [97, 47, 98], .str [97, 98, 99, 100, 101, 102, 103, 104, 105, 106, 107, 108, 109], .str [97, 35, 98], .str [], .int 7]
theorem tx4 : ∀ x ∈ TX4, BadX x ∧ okD 11 x = true := by
  intro x hx
  rcases List.mem_cons.mp hx with rfl | hx
  · exact ⟨.inl ⟨V401, rfl, by decide, by decide⟩, rfl⟩
  rcases List.mem_cons.mp hx with rfl | hx
  · exact ⟨.inr rfl, rfl⟩
  rcases List.mem_cons.mp hx with rfl | hx
  · exact ⟨.inr rfl, rfl⟩
  rw [List.mem_singleton.mp hx]
  exact ⟨.inr rfl, rfl⟩
theorem bd6 : ∀ x ∈ BD6, BadN x ∧ BadT x ∧ okD 11 x = true := by
  intro x hx
  have k : ∀ t : Tx, t.length ≤ 1000 → nameD t = .non → targ t = .non → BadN (.str t) ∧ BadT (.str t) ∧ okD 11 (.str t) = true := fun t h1 h2 h3 => ⟨.inl ⟨t, rfl, h1, h2⟩, .inl ⟨t, rfl, h1, h3⟩, rfl⟩
  rcases List.mem_cons.mp hx with rfl | hx
  · exact k [] (by decide) rfl rfl
  rcases List.mem_cons.mp hx with rfl | hx
  · exact k _ (by decide) rfl rfl
  rcases List.mem_cons.mp hx with rfl | hx
  · exact k _ (by decide) rfl rfl
  rcases List.mem_cons.mp hx with rfl | hx
  · exact ⟨.inr rfl, .inr rfl, rfl⟩
  rcases List.mem_cons.mp hx with rfl | hx
  · exact k _ (by decide) rfl rfl
  rw [List.mem_singleton.mp hx]
  exact ⟨.inr rfl, .inr rfl, rfl⟩
theorem bd5 : ∀ x ∈ BD5, BadP x ∧ okD 11 x = true := by
  intro x hx
  have k : ∀ t : Tx, t.length ≤ 1000 → partD t = .non → BadP (.str t) ∧ okD 11 (.str t) = true := fun t h1 h2 => ⟨.inl ⟨t, rfl, h1, h2⟩, rfl⟩
  rcases List.mem_cons.mp hx with rfl | hx
  · exact k _ (by decide) rfl
  rcases List.mem_cons.mp hx with rfl | hx
  · exact k _ (by decide) rfl
  rcases List.mem_cons.mp hx with rfl | hx
  · exact k _ (by decide) rfl
  rcases List.mem_cons.mp hx with rfl | hx
  · exact k _ (by decide) rfl
  rw [List.mem_singleton.mp hx]
  exact ⟨.inr rfl, rfl⟩
abbrev WTEXT : Tx := [116, 101, 120, 116]
abbrev WNAME : Tx := [110, 97, 109, 101]
/-- refused so -/
def Ref (sp : D) (wd : Tx) : Prop := ∃ c, ((wd = WTEXT ∧ c = 2) ∨ (wd = WNAME ∧ c = 1)) ∧ ∀ k l, 6 ≤ k → cl k f_deed_row [.d sp] l = .exc c .non l
theorem ref_n {sp : D} (h : ∀ k l, 6 ≤ k → cl k f_deed_row [.d sp] l = .exc 1 .non l) : Ref sp WNAME := ⟨1, .inr ⟨rfl, rfl⟩, h⟩
theorem mul401 : mulD (.str [118]) (.int 401) = some (.str V401) := by
  have e : (List.replicate (401 : Int).toNat [118]).flatten = V401 := by decide
  unfold mulD
  dsimp only
  rw [if_pos ⟨by decide, by decide, by decide⟩, e]
theorem mul25 : mulD (.str [97]) (.int 25) = some (.str A25) := by
  have e : (List.replicate (25 : Int).toNat [97]).flatten = A25 := by decide
  unfold mulD
  dsimp only
  rw [if_pos ⟨by decide, by decide, by decide⟩, e]
theorem addD_int (a b : Int) : addD (.int a) (.int b) = some (.int (a + b)) := rfl
theorem addt (x : D) (xs ys : List D) (h : xs.length + ys.length ≤ 100) : addD (.tup (x :: xs)) (.tup ys) = some (.tup (x :: (xs ++ ys))) := by
  simp [addD]
  omega
end Vx

set_option maxHeartbeats 400000
namespace Vx
open PySem L2
theorem spoilt {k n : Nat} {l : Loc} {d : Dd} (hk : 2 ≤ k) (hv : VS l n) (h : DdOk d) : ∃ sp wd l', cl k f_law_spoilt [.d d.D, .r n] l = .ok (.d (.tup [sp, .str wd])) l' ∧ Ref sp wd ∧ VG n l l' := by
  obtain ⟨k, rfl⟩ := pos_of (show 1 ≤ k by omega)
  rw [cl_eq (df := d_law_spoilt) rfl rfl]
  obtain ⟨x, l1, ex, x0, x1, v1⟩ := digit (k := k) (base := 4) (by omega) hv (by omega) (by omega)
  obtain ⟨y, l2, ey, y0, y1, v2⟩ := digit (k := k) (base := 6) (by omega) v1.vs (by omega) (by omega)
  obtain ⟨tx, et, ht⟩ := atn (xs := TX4) x0 (by simpa using x1)
  obtain ⟨bd, eb, hb⟩ := atn (xs := BD6) y0 (by simpa using y1)
  obtain ⟨t1, t2⟩ := tx4 tx ht
  obtain ⟨b1, b2, b3⟩ := bd6 bd hb
  have v := v1.trans v2
  have m1 := mul401
  have m2 := mul25
  have hm4 : ∀ l : Loc, mkLst false [W.d (.str V401), .d .non, .d (.int 5), .d (.tup [.str [97]])] l = .ok (.d (.lst TX4)) l := fun _ => rfl
  have hm6 : ∀ l : Loc, mkLst false [W.d (.str []), .d (.str [97, 47, 47, 98]), .d (.str [120, 46, 121]), .d .non, .d (.str A25), .d (.lst [.str [97]])] l = .ok (.d (.lst BD6)) l := fun _ => rfl
  generalize hT : TX4 = T4 at *
  generalize hB : BD6 = B6 at *
  have pre : ∀ ds : List D, d.D = .tup ds → (evSs (CF k) d_law_spoilt.body (startE d_law_spoilt.nl [W.d d.D, W.r n]) l) = evSs (CF k) (match d_law_spoilt.body with
      | .cons _ (.cons _ r) => r
      | b => b) [some (.d (.tup ds)), some (.r n), some (.d tx), some (.d bd), none] l2 := fun ds e => by
    rw [e]
    simp [d_law_spoilt, evSs, evS, evE, evL, startE, asgT, padN_zero, fnCall_f, op2W, pk, op2, m1, m2, mt1, mk1, hm4, hm6, idxW, ex, ey, et, eb]
  have nb : ∀ (w : Tx), w ≠ WWRITE → (w == WWRITE) = false := fun w h => by simpa using h
  have np : ∀ (w : Tx), w ≠ WPART → (w == WPART) = false := fun w h => by simpa using h
  cases d with
  | wr a t =>
    rw [pre _ rfl]
    obtain ⟨z, l3, ez, z0, z1, v3⟩ := digit (k := k) (base := 2) (by omega) v2.vs (by omega) (by omega)
    have hz : z = 0 ∨ z = 1 := by omega
    rcases hz with rfl | rfl
    · refine ⟨.tup [.str WWRITE, .str a, tx], WTEXT, l3, ?_, ⟨2, .inl ⟨rfl, rfl⟩, fun k l hk => rb_text hk h.1 t1 t2⟩, v.trans v3⟩
      simp [d_law_spoilt, evSs, evS, evE, evT, evL, asgT, padN_zero, fnCall_f, op2W, pk, op2, eqO, okD, eqd_str, trW, trD, idxW, at_0, at_1, ez, mt2, mt3, mk2, Out.res]
    · refine ⟨.tup [.str WWRITE, bd, tx], WNAME, l3, ?_, ref_n fun k l hk => rb_name hk rfl b1 (by simp [okL, b3, t2]), v.trans v3⟩
      simp [d_law_spoilt, evSs, evS, evE, evT, evL, asgT, padN_zero, fnCall_f, op2W, pk, op2, eqO, okD, eqd_str, trW, trD, idxW, at_0, at_1, ez, mt2, mt3, mk2, Out.res]
  | st =>
    rw [pre _ rfl]
    refine ⟨.tup [.str WAWAY, bd], WNAME, l2, ?_, ref_n fun k l hk => rb_name hk rfl b1 (by simp [okL, b3]), v⟩
    simp [d_law_spoilt, evSs, evS, evE, evT, evL, asgT, padN_zero, fnCall_f, op2W, pk, op2, eqO, okD, eqd_str, eqd_int, biD, trW, trD, idxW, at_0, mt2, Out.res]
  | on w a =>
    rw [pre _ rfl]
    obtain ⟨z, l3, ez, z0, z1, v3⟩ := digit (k := k) (base := 1) (by omega) v2.vs (by omega) (by omega)
    obtain rfl : z = 0 := by omega
    have hw1 := nb w (by rcases h.2 with rfl | rfl | rfl <;> decide)
    have hw2 := np w (by rcases h.2 with rfl | rfl | rfl <;> decide)
    have hs : size w = some 2 := by rcases h.2 with rfl | rfl | rfl <;> rfl
    have c1 : cut [D.str w, D.str a] none (some 1) = [.str w] := rfl
    have c2 : cut [D.str w, D.str a] (some 2) none = [] := rfl
    have a1 := addt (.str w) [] [bd] (by simp)
    have a2 := addt (.str w) [bd] [] (by simp)
    simp only [List.nil_append, List.append_nil, List.cons_append] at a1 a2
    refine ⟨.tup [.str w, bd], WNAME, l3, ?_, ref_n fun k l hk => rb_name hk hs b1 (by simp [okL, b3]), v.trans v3⟩
    simp [d_law_spoilt, evSs, evS, evE, evT, evL, evO, asgT, padN_zero, fnCall_f, op2W, pk, op2, eqO, okD, eqd_str, eqd_int, biD, trW, trD, idxW, at_0, ez, hw1, hw2, subD, slD, c1, c2, a1, a2, mt1, mt2, Out.res, addD_int]
  | tw w a b =>
    rw [pre _ rfl]
    obtain ⟨z, l3, ez, z0, z1, v3⟩ := digit (k := k) (base := 2) (by omega) v2.vs (by omega) (by omega)
    have hw4 : w = WREN ∨ w = WJOIN ∨ w = WFAM ∨ w = WSIGN := by
      rcases h.2 with ⟨rfl | rfl | rfl, _⟩ | ⟨rfl, _⟩ <;> simp
    have hw1 := nb w (by rcases hw4 with rfl | rfl | rfl | rfl <;> decide)
    have hw2 := np w (by rcases hw4 with rfl | rfl | rfl | rfl <;> decide)
    have hs : size w = some 3 := by rcases hw4 with rfl | rfl | rfl | rfl <;> rfl
    have hz : z = 0 ∨ z = 1 := by omega
    rcases hz with rfl | rfl
    · have c1 : cut [D.str w, D.str a, D.str b] none (some 1) = [.str w] := rfl
      have c2 : cut [D.str w, D.str a, D.str b] (some 2) none = [.str b] := rfl
      have a1 := addt (.str w) [] [bd] (by simp)
      have a2 := addt (.str w) [bd] [.str b] (by simp)
      simp only [List.nil_append, List.append_nil, List.cons_append] at a1 a2
      refine ⟨.tup [.str w, bd, .str b], WNAME, l3, ?_, ref_n fun k l hk => rb_name hk hs b1 (by simp [okL, okD, b3]), v.trans v3⟩
      simp [d_law_spoilt, evSs, evS, evE, evT, evL, evO, asgT, padN_zero, fnCall_f, op2W, pk, op2, eqO, okD, eqd_str, eqd_int, biD, trW, trD, idxW, at_0, ez, hw1, hw2, subD, slD, c1, c2, a1, a2, mt1, mt2, Out.res, addD_int]
    · have c1 : cut [D.str w, D.str a, D.str b] none (some 2) = [.str w, .str a] := rfl
      have c2 : cut [D.str w, D.str a, D.str b] (some 3) none = [] := rfl
      have a1 := addt (.str w) [.str a] [bd] (by simp)
      have a2 := addt (.str w) [.str a, bd] [] (by simp)
      simp only [List.nil_append, List.append_nil, List.cons_append] at a1 a2
      refine ⟨.tup [.str w, .str a, bd], WNAME, l3, ?_, ref_n fun k l hk => ?_, v.trans v3⟩
      · simp [d_law_spoilt, evSs, evS, evE, evT, evL, evO, asgT, padN_zero, fnCall_f, op2W, pk, op2, eqO, okD, eqd_str, eqd_int, biD, trW, trD, idxW, at_0, ez, hw1, hw2, subD, slD, c1, c2, a1, a2, mt1, mt2, Out.res, addD_int]
      · rcases h.2 with ⟨hw, _⟩ | ⟨rfl, _⟩
        · exact rb_tw hk hw h.1 b1 b3
        · exact rb_sg hk h.1 b2 b3
  | pt a p b =>
    rw [pre _ rfl]
    obtain ⟨z, l3, ez, z0, z1, v3⟩ := digit (k := k) (base := 3) (by omega) v2.vs (by omega) (by omega)
    have hz : z = 0 ∨ z = 1 ∨ z = 2 := by omega
    rcases hz with rfl | rfl | rfl
    · have c1 : cut [D.str WPART, D.str a, D.str p, D.str b] none (some 1) = [.str WPART] := rfl
      have c2 : cut [D.str WPART, D.str a, D.str p, D.str b] (some 2) none = [.str p, .str b] := rfl
      have a1 := addt (.str WPART) [] [bd] (by simp)
      have a2 := addt (.str WPART) [bd] [.str p, .str b] (by simp)
      simp only [List.nil_append, List.append_nil, List.cons_append] at a1 a2
      refine ⟨.tup [.str WPART, bd, .str p, .str b], WNAME, l3, ?_, ref_n fun k l hk => rb_name hk rfl b1 (by simp [okL, okD, b3]), v.trans v3⟩
      simp [d_law_spoilt, evSs, evS, evE, evT, evL, evO, asgT, padN_zero, fnCall_f, op2W, pk, op2, eqO, okD, eqd_str, eqd_int, biD, trW, trD, idxW, at_0, ez, subD, slD, c1, c2, a1, a2, mt1, mt2, Out.res, addD_int]
    · obtain ⟨u, l4, eu, u0, u1, v4⟩ := digit (k := k) (base := 5) (by omega) v3.vs (by omega) (by omega)
      obtain ⟨bp, ebp, hbp⟩ := atn (xs := BD5) u0 (by simpa using u1)
      obtain ⟨p1, p2⟩ := bd5 bp hbp
      have hm5 : ∀ l : Loc, mkLst false [W.d (.str [97, 47, 98]), .d (.str [97, 98, 99, 100, 101, 102, 103, 104, 105, 106, 107, 108, 109]), .d (.str [97, 35, 98]), .d (.str []), .d (.int 7)] l = .ok (.d (.lst BD5)) l := fun _ => rfl
      generalize hB5 : BD5 = B5 at *
      have c1 : cut [D.str WPART, D.str a, D.str p, D.str b] none (some 2) = [.str WPART, .str a] := rfl
      have c2 : cut [D.str WPART, D.str a, D.str p, D.str b] (some 3) none = [.str b] := rfl
      have a1 := addt (.str WPART) [.str a] [bp] (by simp)
      have a2 := addt (.str WPART) [.str a, bp] [.str b] (by simp)
      simp only [List.nil_append, List.append_nil, List.cons_append] at a1 a2
      refine ⟨.tup [.str WPART, .str a, bp, .str b], WNAME, l4, ?_, ref_n fun k l hk => rb_pt2 hk h.1 p1 p2, (v.trans v3).trans v4⟩
      simp [d_law_spoilt, evSs, evS, evE, evT, evL, evO, asgT, padN_zero, fnCall_f, op2W, pk, op2, eqO, okD, eqd_str, eqd_int, biD, trW, trD, idxW, at_0, ez, eu, hm5, ebp, subD, slD, c1, c2, a1, a2, mt1, mt2, Out.res, addD_int]
    · have c1 : cut [D.str WPART, D.str a, D.str p, D.str b] none (some 3) = [.str WPART, .str a, .str p] := rfl
      have c2 : cut [D.str WPART, D.str a, D.str p, D.str b] (some 4) none = [] := rfl
      have a1 := addt (.str WPART) [.str a, .str p] [bd] (by simp)
      have a2 := addt (.str WPART) [.str a, .str p, bd] [] (by simp)
      simp only [List.nil_append, List.append_nil, List.cons_append] at a1 a2
      refine ⟨.tup [.str WPART, .str a, .str p, bd], WNAME, l3, ?_, ref_n fun k l hk => rb_pt3 hk h.1 h.2.1 b1 b3, v.trans v3⟩
      simp [d_law_spoilt, evSs, evS, evE, evT, evL, evO, asgT, padN_zero, fnCall_f, op2W, pk, op2, eqO, okD, eqd_str, eqd_int, biD, trW, trD, idxW, at_0, ez, subD, slD, c1, c2, a1, a2, mt1, mt2, Out.res, addD_int]
end Vx

set_option maxHeartbeats 400000
namespace Vx
open PySem L2
abbrev WREF : Tx := [114, 101, 102, 117, 115, 101, 100]
abbrev WTOLD : Tx := [116, 111, 108, 100]
theorem ask_val0 {P : Pt} {fn : Nat → List W → Loc → Res W} {g : Nat} {df : Def} {A : Asker} (q : P.dfs[g]? = some df) (q2 : askOf df = some A) (r : Res W) : ask P fn g r = match r with
    | .ok (.d x) l => if noIns x = true then .ok (.d (.tup [A.told, x])) l else .bad
    | .exc c' p l => match P.sub c' A.c with
      | some true => (match outS A.e (List.replicate df.nl none) l (evSs ⟨fn, P.sub, fun _ _ => .bad, P.fl, P.mt, P.ini⟩ A.suite ((List.replicate df.nl none).set A.e (some (.d (.ins c' [p])))) l) with
        | .nx ρ l => (ret (slotV ρ A.x) l).bind fun w l => match w with
          | .d x => .ok (.d x) l
          | .r _ => .bad
        | _ => .bad)
      | _ => .bad
    | _ => .bad := by
  unfold ask
  rw [q]
  dsimp only
  unfold askR
  rw [q2] <;> rfl
theorem Dd.okd (d : Dd) : okD 11 d.D = true := by cases d <;> rfl
theorem Dd.noi (d : Dd) : noIns d.D = true := by cases d <;> rfl
theorem Dd.eqs (d : Dd) : eqD d.D d.D = true := by cases d <;> simp [Dd.D, eqD, eqL]
theorem Dd.ne (d : Dd) : d.D ≠ .non := by cases d <;> simp [Dd.D]
theorem same_told {x : D} (h : okD 11 x = true) (e : eqD x x = true) : eqO (.tup [.str WTOLD, x]) (.tup [.str WTOLD, x]) = some true := by
  simp [eqO, okD, okL, h, eqD, eqL, e]
theorem nm_len {a : Tx} (h : NmOk a) : a.length ≤ 24 := h.pl.2
theorem dds_of {d : Dd} (h : DdOk d) : DdS d := by
  cases d with
  | wr a t => exact ⟨by have := nm_len h.1; omega, h.2.1⟩
  | tw w a b =>
    have h1 := nm_len h.1
    rcases h.2 with ⟨hw, hb⟩ | ⟨rfl, hb⟩
    · have h2 := nm_len hb
      refine ⟨by rcases hw with rfl | rfl | rfl <;> decide, by omega, by omega, by rcases hw with rfl | rfl | rfl <;> decide, by rcases hw with rfl | rfl | rfl <;> decide⟩
    · refine ⟨by decide, by omega, ?_, by decide, by decide⟩
      rcases hb with hb | ⟨c, p, h2, h3, rfl⟩
      · have := nm_len hb; omega
      · have := nm_len h2
        have := h3.len
        simp; omega
  | pt a p b => exact ⟨by have := nm_len h.1; omega, by have := h.2.1.len; omega, by have := nm_len h.2.2; omega⟩
  | on w a => exact ⟨by rcases h.2 with rfl | rfl | rfl <;> decide, by have := nm_len h.1; omega, by rcases h.2 with rfl | rfl | rfl <;> decide, by rcases h.2 with rfl | rfl | rfl <;> decide⟩
  | st => trivial
theorem dds_hd {d d' : Dd} (h : DdOk d) (w : Hd d d') : DdS d' := by
  have hs := dds_of h
  cases d <;> cases d' <;> first | (exact w.elim) | skip
  · obtain ⟨w1, rfl⟩ := w
    exact ⟨by have := w1.len; omega, hs.2⟩
  · obtain ⟨rfl, w1, w2⟩ := w
    refine ⟨hs.1, by have := w1.len; omega, ?_, hs.2.2.2.1, hs.2.2.2.2⟩
    rcases w2 with ⟨_, w2⟩ | ⟨_, w2⟩
    · have := w2.len; omega
    · have := w2.wt.1.2.2.1; omega
  · obtain ⟨w1, w2, w3⟩ := w
    exact ⟨by have := w1.len; omega, by have := w2.len; omega, by have := w3.len; omega⟩
  · obtain ⟨rfl, w1⟩ := w
    exact ⟨hs.1, by have := w1.len; omega, hs.2.2.1, hs.2.2.2⟩
  · trivial
theorem row_len {d : Dd} (h : DdS d) : d.row.length ≤ 1020 + 400 := by
  cases d with
  | wr a t =>
    have := esc_len t
    have := h.1
    have := h.2
    simp [Dd.row]
    omega
  | tw w a b =>
    obtain ⟨h1, h2, h3, _⟩ := h
    simp [Dd.row]
    omega
  | pt a p b =>
    obtain ⟨h1, h2, h3⟩ := h
    simp [Dd.row]
    omega
  | on w a =>
    obtain ⟨h1, h2, _⟩ := h
    simp [Dd.row]
    omega
  | st => simp [Dd.row]
/-- a row of a deed handed is short -/
theorem row_len2 {d d' : Dd} (h : DdOk d) (w : Hd d d') : d'.row.length ≤ 1000 := by
  have hs := dds_hd h w
  cases d <;> cases d' <;> first | (exact w.elim) | skip
  · rename_i a t a' t'
    obtain ⟨w1, rfl⟩ := w
    have := esc_len t'
    have := w1.len
    have := h.2.1
    simp [Dd.row]
    omega
  · obtain ⟨h1, h2, h3, _⟩ := hs
    simp [Dd.row]
    omega
  · obtain ⟨h1, h2, h3⟩ := hs
    simp [Dd.row]
    omega
  · obtain ⟨h1, h2, _⟩ := hs
    simp [Dd.row]
    omega
  · simp [Dd.row]
end Vx

set_option maxHeartbeats 400000
namespace Vx
open PySem L2
/-! what is asked -/
def askA : Asker := ⟨1, 2, 0, .tup (.cons (.c (.str WREF)) (.cons (.c (.str [111, 116, 104, 101, 114])) .nil)), .str WTOLD, s_law_asked_0⟩
theorem askA_eq : askOf d_law_asked = some askA := by rfl
theorem sub10 : pg.subF 1 0 = some true := rfl
theorem sub20 : pg.subF 2 0 = some true := rfl
theorem sub11 : pg.subF 1 1 = some true := rfl
theorem sub12 : pg.subF 1 2 = some false := rfl
theorem sub21 : pg.subF 2 1 = some false := rfl
theorem sub22 : pg.subF 2 2 = some true := rfl
theorem sub10' : pg.pt.sub 1 0 = some true := rfl
theorem sub20' : pg.pt.sub 2 0 = some true := rfl
theorem sub11' : pg.pt.sub 1 1 = some true := rfl
theorem sub12' : pg.pt.sub 1 2 = some false := rfl
theorem sub21' : pg.pt.sub 2 1 = some false := rfl
theorem sub22' : pg.pt.sub 2 2 = some true := rfl
theorem asked_ok {k : Nat} {x : D} {l : Loc} (h : noIns x = true) : (CF k).ask f_law_asked (.ok (.d x) l) = .ok (.d (.tup [.str WTOLD, x])) l := by
  rw [CF_ask, ask_val0 (df := d_law_asked) rfl askA_eq]
  simp [h, askA]
theorem asked1 {k : Nat} {l : Loc} : (CF k).ask f_law_asked (.exc 1 .non l) = .ok (.d (.tup [.str WREF, .str WNAME])) l := by
  have ha : atD [D.str WTEXT, D.str WNAME] 1 = some (.str WNAME) := rfl
  rw [CF_ask, ask_val0 (df := d_law_asked) rfl askA_eq]
  simp [askA, sub10', d_law_asked, s_law_asked_0, evSs, evS, evE, evT, evL, isxW, sub11', sub12', mk2, mt2, asgT, biD, idxW, ha, okD, op2W, op2, eqO, eqD, trW, pk, trD, outS, outE, outO, noInsW, noIns, noInsL, slotV]
theorem asked2 {k : Nat} {l : Loc} : (CF k).ask f_law_asked (.exc 2 .non l) = .ok (.d (.tup [.str WREF, .str WTEXT])) l := by
  have ha : atD [D.str WTEXT, D.str WNAME] 0 = some (.str WTEXT) := rfl
  rw [CF_ask, ask_val0 (df := d_law_asked) rfl askA_eq]
  simp [askA, sub20', d_law_asked, s_law_asked_0, evSs, evS, evE, evT, evL, isxW, sub21', sub22', mk2, mt2, asgT, biD, idxW, ha, okD, op2W, op2, eqO, eqD, trW, pk, trD, outS, outE, outO, noInsW, noIns, noInsL, slotV]
theorem law_b {k : Nat} {A b2 b3 b4 b5 b6 b7 : Option W} {i : Int} {l : Loc} (hk : 9 ≤ k) : ∃ (c2 c3 c4 c5 c6 c7 : Option W) (l' : Loc), evSs (CF k) b_law_0 [A, some (.d (.int i)), b2, b3, b4, b5, b6, b7] l = .nx [A, some (.d (.int i)), c2, c3, c4, c5, c6, c7] l' := by
  obtain ⟨l1, e1, v1, _⟩ := state (k := k) (l := l) (i := i) (by omega)
  obtain ⟨d, l2, e2, hd, v2⟩ := law_deed (k := k) (by omega) v1
  obtain ⟨d', l3, e3, hh, v3⟩ := law_handed (k := k) (by omega) v2.vs hd
  have e4 := ro_ (law_row (k := k) (l := l3) (d := d) (by omega) (dds_of hd))
  have e5 := ro_ (row_hd (k := k) (l := l3) (by omega) hd hh)
  have hr := read_hd hd (hd_self hd)
  have e6 := ro_ (read_deed_some (k := k) (r := d.row) (l := l3) (by omega) (row_len2 hd (hd_self hd)) (by rw [hr]; exact d.ne))
  rw [hr] at e6
  have hr2 := read_hd hd hh
  have e7 := ro_ (law_row (k := k) (l := l3) (d := d') (by omega) (dds_hd hd hh))
  have e8 := ro_ (read_deed_some (k := k) (r := d'.row) (l := l3) (by omega) (row_len2 hd hh) (by rw [hr2]; exact d.ne))
  rw [hr2] at e8
  obtain ⟨sp, wd, l4, e9, ⟨c, hc, hrf⟩, v4⟩ := spoilt (k := k) (by omega) v3.vs hd
  have a1 := asked_ok (k := k) (x := .str d.row) (l := l3) rfl
  have a2 := asked_ok (k := k) (x := d.D) (l := l3) d.noi
  have q1 := same_told (x := .str d.row) rfl (by simp [eqD])
  have q2 := same_told (x := d.D) d.okd d.eqs
  have e10 := rox_ (hrf k l4 (by omega))
  generalize d.row = row at *
  generalize hdd : d.D = dD at *
  generalize hdd' : d'.D = dD' at *
  refine ⟨some (.r l.length), some (.d dD), some (.d dD'), some (.d (.str row)), some (.d sp), some (.d (.str wd)), l4, ?_⟩
  rcases hc with ⟨rfl, rfl⟩ | ⟨rfl, rfl⟩
  · have q3 : eqO (.tup [.str WREF, .str WTEXT]) (.tup [.str WREF, .str WTEXT]) = some true := by decide
    simp [b_law_0, q_law_0, q_law_1, q_law_2, q_law_3, evSs, evS, evE, evT, evL, asgT, setMany, padN_zero, fnCall_f, e1, e2, e3, e4, e5, e6, e7, e8, e9, e10, a1, a2, asked2, mt2, op2W, pk, op2, q1, q2, q3, trW, trD]
  · have q3 : eqO (.tup [.str WREF, .str WNAME]) (.tup [.str WREF, .str WNAME]) = some true := by decide
    simp [b_law_0, q_law_0, q_law_1, q_law_2, q_law_3, evSs, evS, evE, evT, evL, asgT, setMany, padN_zero, fnCall_f, e1, e2, e3, e4, e5, e6, e7, e8, e9, e10, a1, a2, asked1, mt2, op2W, pk, op2, q1, q2, q3, trW, trD]
theorem law_for {k : Nat} {A : Option W} (hk : 9 ≤ k) : ∀ (ns : List Int) (l : Loc) (b1 b2 b3 b4 b5 b6 b7 : Option W), ∃ (c1 c2 c3 c4 c5 c6 c7 : Option W) (l' : Loc), forGo (fun _ => True) (evSs (CF k) b_law_0) (.n 1) (ns.map fun i => Itm.one (.d (.int i))) [A, b1, b2, b3, b4, b5, b6, b7] l = .nx [A, c1, c2, c3, c4, c5, c6, c7] l'
  | [], l, b1, b2, b3, b4, b5, b6, b7 => ⟨b1, b2, b3, b4, b5, b6, b7, l, go_nil⟩
  | i :: ns, l, b1, b2, b3, b4, b5, b6, b7 => by
    obtain ⟨c2, c3, c4, c5, c6, c7, l1, e⟩ := law_b (A := A) (l := l) (i := i) (b2 := b2) (b3 := b3) (b4 := b4) (b5 := b5) (b6 := b6) (b7 := b7) hk
    obtain ⟨d1, d2, d3, d4, d5, d6, d7, l2, e2⟩ := law_for hk ns l1 (some (.d (.int i))) c2 c3 c4 c5 c6 c7
    refine ⟨d1, d2, d3, d4, d5, d6, d7, l2, ?_⟩
    rw [List.map_cons, go_step e]
    exact e2
theorem law_run (ns : List Int) (hl : ns.length ≤ 63) (_ : ∀ z ∈ ns, PySem.Builtin.Int.intBits z ≤ 1048576) : ∃ l', Vx.call pg.pt 10 f_law [.d (.lst (ns.map D.int))] [] = .ok (.d (.bl true)) l' := by
  have hc : ∃ ms : List Int, Vx.cut (ns.map D.int ++ [.int 0]) none (some 12) = ms.map D.int := by
    refine ⟨Vx.cut (ns ++ [0]) none (some 12), ?_⟩
    unfold Vx.cut
    simp
  obtain ⟨ms, hm⟩ := hc
  obtain ⟨c1, c2, c3, c4, c5, c6, c7, l', e⟩ := law_for (k := 9) (A := some (.d (.lst (ns.map D.int)))) (by omega) ms [] none none none none none none none
  refine ⟨l', ?_⟩
  have h1 : (ns.map D.int).length + ([D.int 0] : List D).length ≤ 16777216 := by simp; omega
  have hadd : addD (.lst (ns.map D.int)) (.lst [.int 0]) = some (.lst (ns.map D.int ++ [.int 0])) := by
    show (if _ then _ else _) = _
    rw [if_pos h1]
  show cl (9 + 1) f_law _ [] = _
  rw [cl_eq (df := d_law) rfl rfl]
  simp [d_law, evSs, evS, evE, evO, evL, startE, mk1, op2W, pk, op2, hadd, slD, hm, itms, walked, stays_no, List.map_map, Function.comp_def, e, Out.res]
end Vx

open PySem PySem.W PySem.Calls PyProof.Rows
theorem PySem.Challenge.cw_signsleft_k60_rows_of_deeds_holds : PySem.Challenge.rw_signsleft_k60_rows_of_deeds.Holds := by
  w_on; o_law
  refine HandSHeadRun.head_any (r := OpenLaw.row PySem.Challenge.rw_signsleft_k60_rows_of_deeds) (q := view (OpenLaw.row PySem.Challenge.rw_signsleft_k60_rows_of_deeds).prog [51]) (H := Vx.hk) (ob := Vx.ob) (M := 6000) (loose := Vx.loose) (d := HandSHeadRun.topDef (OpenLaw.row PySem.Challenge.rw_signsleft_k60_rows_of_deeds).prog 51) (kwd := []) Vx.ob_eq
    (by kernel_rfl) (fun s => by kernel_rfl) Vx.run (by kernel_rfl) (by kernel_rfl) (by kernel_rfl) (by rfl) (by first | assumption | decide +kernel) (by decide +kernel) ⟨rfl, rfl, rfl, rfl, rfl, by decide +kernel⟩ ?hw ?hc
  case hw => w_witness2
  case hc =>
    exact Vx.Pg.end_ (p := Vx.pg) (l := PySem.Challenge.rw_signsleft_k60_rows_of_deeds) (n := 63) (k := 10) (f := 33) (x := "_law_script") rfl (by decide) (by kernel_rfl) ⟨rfl, by decide, by decide⟩ (by kernel_rfl) rfl rfl (by decide +kernel) (Vx.plain_of Vx.pg_plain Vx.pg_ps) rfl rfl Vx.pg_chk (by decide +kernel) (by decide +kernel) (by decide +kernel) (by decide +kernel) Vx.law_run
