import PyProof.Rows.All
import Wide.All
import OpenK.AllK
import Wide.FinOn
import PySem.Challenge.RW_manygoings_k47_what_is_a_program
import HandS.ForMost
import HandS.Wide
import HandS.Evl
import HandS.TupAny
import HandS.Deep
import HandS.TupLe
import KE.KEqDict
import HandS.More
import HandS.IsInst
import HandS.ForExc
import HandS.HeadWalk
import HandS.ExcOwn
import HandS.List
import HandS.Small
import HandS.Defaults
import HandS.WordsExc
import HandS.HeadHook1
import HandS.HeadHook2
import HandS.HeadHook3
import HandS.HeadHook4
import PyProof.ExcBaseAll.ValueError
import HandS.EndBits
import HandS.Head0
import HandS.Head1
import HandS.Head2
import HandS.HeadEnd
set_option Elab.async false
set_option linter.all false
set_option maxRecDepth 100000
set_option maxHeartbeats 0
/-! Core: a small machine for the program's text: values, a store, expressions, statements. -/
namespace Py
open PySem L2

/-- a value: pure data; a thing of the store; a tuple that holds such things; the script -/
inductive W where
  | d (x : PyData)
  | ref (i : Nat)
  | tup (ws : List W)
  | scr (ns : List Int)
/-- what stands in the store -/
inductive O where
  | lst (ws : List W)
  | dK (kvs : List (Key × W))
  | dT (kvs : List (List Key × W))
  | fK (kvs : List (Key × W))
  | fT (kvs : List (List Key × W))
  | ins (c : String) (fs : List (String × W))
structure St where
  n : Nat
  o : Nat → Option O
def St.set (S : St) (i : Nat) (x : O) : St := ⟨S.n, fun j => if j = i then some x else S.o j⟩
def St.del (S : St) (i : Nat) : St := ⟨S.n, fun j => if j = i then none else S.o j⟩
def St.push (S : St) (x : O) : St := ⟨S.n + 1, fun j => if j = S.n then some x else S.o j⟩
def St.nil : St := ⟨0, fun _ => none⟩
inductive Res (α : Type) where
  | ok (a : α) (s : St)
  | exc (c : String) (s : St)
  | fail
abbrev M (α : Type) := St → Res α
def Res.bind {α β : Type} (r : Res α) (f : α → St → Res β) : Res β := match r with
  | .ok a s => f a s
  | .exc c s => .exc c s
  | .fail => .fail
def Res.post {α : Type} (r : Res α) (P : α → St → Prop) (E : String → St → Prop) : Prop := match r with
  | .ok a s => P a s
  | .exc c s => E c s
  | .fail => False
theorem Res.post_bind {α β : Type} {r : Res α} {f : α → St → Res β} {P : β → St → Prop} {E : String → St → Prop} : (r.bind f).post P E = r.post (fun a s => (f a s).post P E) E := by
  cases r <;> rfl
theorem Res.post_mono {α : Type} {r : Res α} {P P' : α → St → Prop} {E E' : String → St → Prop} (h : r.post P E) (hP : ∀ a s, P a s → P' a s) (hE : ∀ c s, E c s → E' c s) : r.post P' E' := by
  cases r with
  | ok a s => exact hP a s h
  | exc c s => exact hE c s h
  | fail => exact h

/-! ### operators, comparisons, builtins -/
inductive B where
  | add | sub | mul | fdiv | mod | pow
inductive C where
  | eq | ne | lt | le | gt | ge | in_ | nin | isN | notN
inductive BI where
  | len | list_ | sorted_ | all_ | any_ | str_ | int_ | min_ | max_ | sum_ | tuple_ | abs_
inductive BM where
  | append | pop | extend | join | get | split | insert | clear | upper
inductive IK where
  | seq | range1 | range2 | rev | enum | zip | keys | values | items
inductive Pt where
  | v (i : Nat)
  | t (ps : List Pt)
mutual
inductive E where
  | v (i : Nat)
  | k (x : PyData)
  | g (x : String)
  | tup (es : List E)
  | lst (f : Bool) (es : List E)
  | dK
  | dT
  | disp (ks vs : List E)
  | bin (f : Bool) (op : B) (a b : E)
  | neg (a : E)
  | cmp (op : C) (a b : E)
  | chain (op op' : C) (a b c : E)
  | and (a b : E)
  | or (a b : E)
  | not (a : E)
  | ite (c : Tst) (a b : E)
  | ix (a i : E)
  | sl (f : Bool) (a : E) (lo hi : Option E)
  | rv (f : Bool) (a : E)
  | fld (a : E) (x : String)
  | call (x : String) (es : List E) (ds : List PyData)
  | new (c : String) (es : List E)
  | om (a : E) (m : String) (es : List E) (ds : List PyData)
  | ucall (c m : String) (es : List E)
  | bm (f : Bool) (a : E) (m : BM) (es : List E)
  | bi (f : Bool) (x : BI) (es : List E)
  | isin (a : E) (ts : List String)
  | comp (f : Bool) (own : List Nat) (p : Pt) (ik : IK) (es : List E) (c : Option Tst) (e : E)
  | fz (e : E)
/-- a test -/
inductive Tst where
  | e (a : E)
  | and (a b : Tst)
  | or (a b : Tst)
  | not (a : Tst)
end
inductive S where
  | asg (p : Pt) (e : E)
  | sset (a i e : E)
  | fset (a : E) (f : String) (e : E)
  | augv (i : Nat) (op : B) (e : E)
  | augf (a : E) (f : String) (op : B) (e : E)
  | augs (a i : E) (op : B) (e : E)
  | ex (e : E)
  | ret (e : E)
  | retn
  | ite (c : Tst) (a b : List S)
  | for_ (p : Pt) (ik : IK) (es : List E) (b : List S)
  | whl (c : Tst) (b : List S)
  | rs (c : String)
  | pass
  | cont
  | brk
  | try_ (b : List S) (c : String) (i : Option Nat) (h : List S)
abbrev Ev := List (Option W)
inductive Fl where
  | nx (e : Ev)
  | ret (w : W)
  | bk (e : Ev)
  | ct (e : Ev)

/-! ### values -/
def allD : List W → Option (List PyData)
  | [] => some []
  | .d x :: r => match allD r with
    | some ds => some (x :: ds)
    | none => none
  | _ :: _ => none
def mkTup (ws : List W) : W := match allD ws with
  | some ds => .d (.tuple ds)
  | none => .tup ws
def mkL (f : Bool) (ws : List W) : M W := fun S =>
  if ws.length ≤ sizeLine then
    if f = true then match allD ws with
      | some ds => .ok (.d (.list ds)) S
      | none => .fail
    else .ok (.ref S.n) (S.push (.lst ws))
  else .fail
/-- a list (true) or tuple (false) and its items -/
def seqOf (S : St) : W → Option (Bool × List W)
  | .d (.list ds) => some (true, ds.map .d)
  | .d (.tuple ds) => some (false, ds.map .d)
  | .tup ws => some (false, ws)
  | .ref i => match S.o i with
    | some (.lst ws) => some (true, ws)
    | _ => none
  | .scr ns => some (true, ns.map fun i => .d (.int i))
  | _ => none
def isScr : W → Bool
  | .scr _ => true
  | _ => false
def mapO {α β : Type} (f : α → Option β) : List α → Option (List β)
  | [] => some []
  | x :: r => match f x, mapO f r with
    | some y, some ys => some (y :: ys)
    | _, _ => none
def all2 {α β : Type} (f : α → β → Bool) : List α → List β → Bool
  | [], [] => true
  | x :: r, y :: q => f x y && all2 f r q
  | _, _ => false
/-- the data that a value is now -/
def toD (S : St) : Nat → W → Option PyData
  | _, .d x => some x
  | 0, _ => none
  | k + 1, .tup ws => (mapO (toD S k) ws).map .tuple
  | k + 1, .ref i => match S.o i with
    | some (.lst ws) => (mapO (toD S k) ws).map .list
    | _ => none
  | _ + 1, .scr ns => some (.list (ns.map .int))
def scalD : PyData → Bool
  | .none | .bool _ | .int _ | .str _ => true
  | _ => false
/-- scalars that == tells apart as data does -/
def scal2 : PyData → PyData → Bool
  | .none, .none | .none, .int _ | .none, .bool _ | .none, .str _ | .int _, .none | .bool _, .none | .str _, .none => true
  | .int _, .int _ | .bool _, .bool _ | .str _, .str _ | .int _, .str _ | .str _, .int _ | .bool _, .str _ | .str _, .bool _ => true
  | _, _ => false
def truD (S : St) : W → Option Bool
  | .d .none => some false
  | .d (.bool b) => some b
  | .d (.int i) => some (i != 0)
  | .d (.str x) => if x.length ≤ sizeLine then some (x.length != 0) else none
  | .d (.dict _) => none
  | .ref i => match S.o i with
    | some (.lst ws) => some (!ws.isEmpty)
    | some (.dK kvs) => some (!kvs.isEmpty)
    | _ => none
  | w => (seqOf S w).map fun p => !p.2.isEmpty
def keyD : PyData → Option Key
  | .int i => some (.inl i)
  | .str x => some (.inr x)
  | _ => none
def keysD : List PyData → Option (List Key)
  | [] => some []
  | x :: r => match keyD x, keysD r with
    | some k, some ks => some (k :: ks)
    | _, _ => none
def keyW : W → Option Key
  | .d x => keyD x
  | _ => none
def keyT : W → Option (List Key)
  | .d (.tuple ds) => if ds.length ≤ 2 then keysD ds else none
  | _ => none
section
variable {κ : Type} [DecidableEq κ] {α : Type}
def valA (kvs : List (κ × α)) (k : κ) : Option α := (kvs.find? fun kv => decide (kv.1 = k)).map (·.2)
def putA (kvs : List (κ × α)) (k : κ) (v : α) : List (κ × α) :=
  if (valA kvs k).isSome then kvs.map fun kv => if kv.1 = k then (kv.1, v) else kv else kvs ++ [(k, v)]
def dropA (kvs : List (κ × α)) (k : κ) : List (κ × α) := kvs.filter fun kv => decide (kv.1 ≠ k)
end
/-- d.get(k): none where there is no such dict or key's kind -/
def dGet (S : St) (i : Nat) (k : W) : Option (Option W) := match S.o i with
  | some (.dK kvs) | some (.fK kvs) => (keyW k).map (valA kvs)
  | some (.dT kvs) | some (.fT kvs) => (keyT k).map (valA kvs)
  | _ => none
def dPut (S : St) (i : Nat) (k v : W) : Option St := match S.o i with
  | some (.dK kvs) => if kvs.length < sizeLine then (keyW k).map fun k => S.set i (.dK (putA kvs k v)) else none
  | some (.dT kvs) => if kvs.length < sizeLine then (keyT k).map fun k => S.set i (.dT (putA kvs k v)) else none
  | _ => none
def atA {α : Type} (xs : List α) (i : Int) : Option α := (ixN xs.length i).bind fun j => xs[j]?
def cutA {α : Type} (xs : List α) (lo hi : Option Int) : List α := (xs.drop (HT.sIx xs.length 0 lo)).take (HT.sIx xs.length xs.length hi - HT.sIx xs.length 0 lo)
def okW (S : St) : Option W → Res W
  | some w => .ok w S
  | none => .fail
def okB (S : St) : Option Bool → Res W
  | some b => .ok (.d (.bool b)) S
  | none => .fail
def wi (i : Int) : W := .d (.int i)
def mulOk (i j : Int) : Bool := decide (i.natAbs < 2 ^ 64) || decide (j.natAbs < 2 ^ 64) || decide (i.natAbs.log2 + j.natAbs.log2 < 1000000)
def divOk (j : Int) : Bool := decide (0 < j) && decide (j.natAbs.log2 < 9000)
def intOp : B → Int → Int → Option Int
  | .add, i, j => some (i + j)
  | .sub, i, j => some (i - j)
  | .mul, i, j => if mulOk i j then some (i * j) else none
  | .fdiv, i, j => if divOk j then some (i / j) else none
  | .mod, i, j => if 0 < j then some (i % j) else none
  | .pow, i, j => if 0 ≤ j ∧ j ≤ 1000000 ∧ i.natAbs < 2 ^ 64 then some (i ^ j.toNat) else none
def binM (f : Bool) (op : B) (x y : W) : M W := fun S => match x, y with
  | .d (.int i), .d (.int j) => okW S ((intOp op i j).map wi)
  | .d (.str a), .d (.str b) => match op with
    | .add => if a.length + b.length ≤ sizeLine then .ok (.d (.str (a ++ b))) S else .fail
    | _ => .fail
  | x, y => if isScr x || isScr y then .fail else match op with
    | .add => match seqOf S x, seqOf S y with
      | some (true, xs), some (true, ys) => mkL f (xs ++ ys) S
      | some (false, xs), some (false, ys) => if xs.length + ys.length ≤ sizeLine then (match xs, ys with
        | [], _ => .ok y S
        | _, [] => .ok x S
        | xs, ys => .ok (mkTup (xs ++ ys)) S) else .fail
      | _, _ => .fail
    | .mul => match seqOf S x, y with
      | some (true, xs), .d (.int k) => if -(2 ^ 63) ≤ k ∧ k < 2 ^ 63 ∧ xs.length * k.toNat ≤ sizeLine then mkL f (List.replicate k.toNat xs).flatten S else .fail
      | _, _ => .fail
    | _ => .fail
def eqM0 (S : St) (x y : W) : Option Bool := match toD S 8 x, toD S 8 y with
  | some a, some b => if scal2 a b || (SeqAt.shaped a && SeqAt.shaped b) then some (PyData.eqv a b) else none
  | _, _ => none
/-- equal for sure -/
def eqW : Nat → W → W → Bool
  | _, .ref i, .ref j => i == j
  | k + 1, .tup xs, .tup ys => all2 (eqW k) xs ys
  | _, .d x, .d y => SeqAt.shaped x && SeqAt.shaped y && PyData.eqv x y
  | _, _, _ => false
def topEq (S : St) : W → W → Bool
  | .ref i, .ref j => match S.o i, S.o j with
    | some (.lst xs), some (.lst ys) => all2 (eqW 8) xs ys
    | some (.dK ks), some (.dK _) => i == j && decide (ks.map (·.1)).Nodup
    | _, _ => false
  | _, _ => false
/-- a tuple of some items, the empty one -/
def tup0 : W → W → Bool
  | .tup (_ :: _), .d (.tuple []) => true
  | _, _ => false
def eqM (S : St) (x y : W) : Option Bool := match eqM0 S x y with
  | some b => some b
  | none => if topEq S x y = true then some true else if tup0 x y = true then some false else none
def inSeq (S : St) (x y : W) : Option Bool := match toD S 8 x, toD S 8 y with
    | some a, some (.list ds) => if (scalD a && ds.all scalD) || (SeqAt.shaped a && SeqAt.shaped (.list ds)) then some (ds.any fun d => PyData.eqv d a) else none
    | some a, some (.tuple ds) => if scalD a && ds.all scalD then some (ds.any fun d => PyData.eqv d a) else none
    | _, _ => none
def inM (S : St) (x y : W) : Option Bool := match y with
  | .ref i => match S.o i with
    | some (.lst _) => inSeq S x y
    | _ => (dGet S i x).map (·.isSome)
  | .d (.str z) => match x with
    | .d (.str a) => match a.cps.toList with
      | [c] => some (decide (c ∈ z.cps.toList))
      | _ => none
    | _ => none
  | _ => inSeq S x y
def isNone : W → Bool
  | .d .none => true
  | _ => false
def isBB : W → W → Option Bool
  | .d (.bool a), .d (.bool b) => some (decide (a = b))
  | _, _ => none
def cmpM (op : C) (x y : W) : M W := fun S => match op with
  | .eq => okB S (eqM S x y)
  | .ne => okB S ((eqM S x y).map (!·))
  | .in_ => okB S (inM S x y)
  | .nin => okB S ((inM S x y).map (!·))
  | .isN => if isNone y then .ok (.d (.bool (isNone x))) S else okB S (isBB x y)
  | .notN => if isNone y then .ok (.d (.bool (!isNone x))) S else okB S ((isBB x y).map (!·))
  | .lt => match x, y with
    | .d (.int i), .d (.int j) => .ok (.d (.bool (decide (i < j)))) S
    | .d (.str a), .d (.str b) => .ok (.d (.bool (decide (a.cps.toList < b.cps.toList)))) S
    | _, _ => .fail
  | .le => match x, y with
    | .d (.int i), .d (.int j) => .ok (.d (.bool (decide (i ≤ j)))) S
    | _, _ => .fail
  | .gt => match x, y with
    | .d (.int i), .d (.int j) => .ok (.d (.bool (decide (j < i)))) S
    | _, _ => .fail
  | .ge => match x, y with
    | .d (.int i), .d (.int j) => .ok (.d (.bool (decide (j ≤ i)))) S
    | _, _ => .fail
def ixM (x i : W) : M W := fun S => match x, i with
  | .d (.str z), .d (.int i) => if z.length ≤ sizeLine then okW S ((atA z.cps.toList i).map fun c => .d (.str ⟨#[c]⟩)) else .fail
  | x, i => match seqOf S x, i with
    | some (_, xs), .d (.int i) => okW S (atA xs i)
    | some _, _ => .fail
    | none, i => match x with
      | .ref a => match dGet S a i with
        | some o => okW S o
        | none => .fail
      | _ => .fail
def slM (f : Bool) (x : W) (l h : Option Int) : M W := fun S => match x with
    | .d (.str z) => if z.length ≤ sizeLine then .ok (.d (.str (cutS z l h))) S else .fail
    | x => match seqOf S x with
      | some (true, xs) => mkL f (cutA xs l h) S
      | some (false, xs) => if HT.sIx xs.length 0 l = 0 ∧ HT.sIx xs.length xs.length h = xs.length then .ok x S else .ok (mkTup (cutA xs l h)) S
      | none => .fail
def rvM (f : Bool) (x : W) : M W := fun S => match seqOf S x with
  | some (true, xs) => mkL f xs.reverse S
  | _ => .fail
def intsD : List PyData → Option (List Int)
  | [] => some []
  | .int i :: r => (intsD r).map (i :: ·)
  | _ :: _ => none
def blsD : List PyData → Option (List Bool)
  | [] => some []
  | .bool b :: r => (blsD r).map (b :: ·)
  | _ :: _ => none
def strsD : List PyData → Option (List Str)
  | [] => some []
  | .str b :: r => (strsD r).map (b :: ·)
  | _ :: _ => none
/-- the items of a list, as data -/
def lstD (S : St) (w : W) : Option (List PyData) := match toD S 2 w with
  | some (.list ds) => some ds
  | _ => none
end Py

/-! Eval: the small machine runs. -/
namespace Py
open PySem L2

structure Cfg where
  call : String → List W → M W
  mth : String → String → Option String
  ini : String → Option String
  fls : String → List String
  glb : String → Option PyData
  fuel : Nat

def fldM (c : Cfg) (x : W) (f : String) : M W := fun S => match x with
  | .ref i => match S.o i with
    | some (.ins cl fs) => if (c.fls cl).contains f = true then okW S (fs.lookup f) else .fail
    | _ => .fail
  | _ => .fail
/-! ### builtins -/
def lenM (S : St) (w : W) : Option Int := match w with
  | .d (.str z) => if z.length ≤ sizeLine then some z.length else none
  | .ref i => match S.o i with
    | some (.lst ws) => some ws.length
    | some (.dK kvs) | some (.fK kvs) => some kvs.length
    | _ => none
  | w => (seqOf S w).map fun p => (p.2.length : Int)
def biM (f : Bool) : BI → List W → M W
  | .len, [w], S => okW S ((lenM S w).map wi)
  | .list_, [w], S => match seqOf S w with
    | some (_, ws) => mkL f ws S
    | none => .fail
  | .tuple_, [w], S => match seqOf S w with
    | some (true, ws) => .ok (mkTup ws) S
    | some (false, _) => .ok w S
    | none => .fail
  | .all_, [w], S => match (lstD S w).bind blsD with
    | some bs => .ok (.d (.bool (bs.all id))) S
    | none => .fail
  | .any_, [w], S => match (lstD S w).bind blsD with
    | some bs => .ok (.d (.bool (bs.any id))) S
    | none => .fail
  | .sum_, [w], S => match (lstD S w).bind intsD with
    | some ns => .ok (wi ns.sum) S
    | none => .fail
  | .abs_, [.d (.int i)], S => .ok (wi (if i < 0 then -i else i)) S
  | .min_, [.d (.int i), .d (.int j)], S => .ok (wi (if j < i then j else i)) S
  | .max_, [.d (.int i), .d (.int j)], S => .ok (wi (if j > i then j else i)) S
  | .int_, [.d (.int i)], S => .ok (wi i) S
  | .int_, [.d (.bool b)], S => .ok (wi (if b then 1 else 0)) S
  | .int_, [.d (.str z)], S => match PySem.intText? z with
    | some n => if z.length ≤ 640 then .ok (wi n) S else .fail
    | none => .fail
  | .str_, [.d (.int i)], S => if i.natAbs.log2 < 1920 then .ok (.d (.str (toString i))) S else .fail
  | _, _, _ => .fail
def isTy (S : St) (w : W) (t : String) : Option Bool := match w with
  | .d .none => some false
  | .d (.bool _) => some (t == "bool" || t == "int")
  | .d (.int _) => some (t == "int")
  | .d (.str _) => some (t == "str")
  | .d (.list _) => some (t == "list")
  | .d (.tuple _) => some (t == "tuple")
  | .tup _ => some (t == "tuple")
  | .ref i => match S.o i with
    | some (.lst _) => some (t == "list")
    | some (.dK _) | some (.dT _) => some (t == "dict")
    | _ => none
  | .scr _ => some (t == "list")
  | _ => none
def tyNames : List String := ["int", "bool", "str", "list", "tuple"]
def isinM (ts : List String) (w : W) : M W := fun S => match ts with
  | [t] => if tyNames.contains t then okB S (isTy S w t) else .fail
  | _ => .fail
/-- which builtin type's method is called -/
inductive KT where
  | lst | dct | str
def mid : KT → BM → Option String
  | .lst, .append => some "list.append" | .lst, .pop => some "list.pop" | .lst, .extend => some "list.extend" | .lst, .insert => some "list.insert" | .lst, .clear => some "list.clear"
  | .dct, .pop => some "dict.pop" | .dct, .get => some "dict.get"
  | .str, .join => some "str.join" | .str, .split => some "str.split" | .str, .upper => some "str.upper"
  | _, _ => none
def kindW (S : St) : W → Option KT
  | .d (.str _) => some .str
  | .ref i => match S.o i with
    | some (.lst _) => some .lst
    | some (.dK _) | some (.dT _) => some .dct
    | _ => none
  | _ => none
def bmM (f : Bool) (k : KT) (m : BM) (x : W) (ws : List W) : M W := fun S => match k, m, x, ws with
  | .lst, .append, .ref i, [y] => match S.o i with
    | some (.lst xs) => if xs.length < sizeLine then .ok (.d .none) (S.set i (.lst (xs ++ [y]))) else .fail
    | _ => .fail
  | .lst, .pop, .ref i, [] => match S.o i with
    | some (.lst xs) => match xs[xs.length - 1]? with
      | some y => .ok y (S.set i (.lst xs.dropLast))
      | none => .fail
    | _ => .fail
  | .dct, .pop, .ref i, [k] => match S.o i with
    | some (.dK kvs) => match keyW k with
      | some k => match valA kvs k with
        | some v => .ok v (S.set i (.dK (dropA kvs k)))
        | none => .fail
      | none => .fail
    | _ => .fail
  | .lst, .extend, .ref i, [y] => if isScr y = true then .fail else match S.o i, seqOf S y with
    | some (.lst xs), some (true, ys) => if xs.length + ys.length ≤ sizeLine then .ok (.d .none) (S.set i (.lst (xs ++ ys))) else .fail
    | _, _ => .fail
  | .lst, .insert, .ref i, [.d (.int j), y] => match S.o i with
    | some (.lst xs) => if xs.length < sizeLine ∧ 0 ≤ j ∧ j < 2 ^ 63 then .ok (.d .none) (S.set i (.lst (xs.take j.toNat ++ [y] ++ xs.drop j.toNat))) else .fail
    | _ => .fail
  | .dct, .get, .ref i, [k, y] => match dGet S i k with
    | some o => .ok (o.getD y) S
    | none => .fail
  | .lst, .clear, .ref i, [] => match S.o i with
    | some (.lst _) => .ok (.d .none) (S.set i (.lst []))
    | _ => .fail
  | .str, .join, .d (.str z), [y] => match (lstD S y).bind strsD with
    | some ys => if (ys.map (·.length)).sum + ys.length * z.length ≤ 16777216 then .ok (.d (.str (Txt.join z ys))) S else .fail
    | none => .fail
  | .str, .split, .d (.str a), [.d (.str b)] => if (b.length == 0) = false ∧ a.length + 2 ≤ sizeLine then mkL f ((Txt.split a b).map fun z => .d (.str z)) S else .fail
  | .str, .upper, .d (.str a), [] => if a.length ≤ 5592405 then .ok (.d (.str (Txt.upper a))) S else .fail
  | _, _, _, _ => .fail
/-- making data of a thing of the store, and of what it holds -/
def fzM : Nat → W → M W
  | _, .d x, S => .ok (.d x) S
  | _, .ref i, S => match S.o i with
    | some (.lst ws) => match allD ws with
      | some ds => .ok (.d (.list ds)) (S.del i)
      | none => .fail
    | _ => .fail
  | _, _, _ => .fail

/-! ### walks -/
def bindPt : Pt → W → Ev → St → Option Ev
  | .v i, w, e, _ => some (e.set i (some w))
  | .t ps, w, e, S => match seqOf S w with
    | some (false, ws) => bindPts ps ws e S
    | _ => none
where
  bindPts : List Pt → List W → Ev → St → Option Ev
    | [], [], e, _ => some e
    | p :: ps, w :: ws, e, S => match bindPt p w e S with
      | some e' => bindPts ps ws e' S
      | none => none
    | _, _, _, _ => none
/-- what a walk goes over: the items; the store's list that is to stay as it is -/
structure Itm where
  ws : List W
  keep : Option (Nat × List W)
def Itm.ok (I : Itm) (S : St) : Prop := match I.keep with
  | none => True
  | some (i, ws) => S.o i = some (.lst ws)
open Classical in
noncomputable def guardI {α : Type} (I : Itm) (S : St) (r : Res α) : Res α := if I.ok S then r else .fail
def rngW (lo : Int) (n : Nat) : List W := (List.range n).map fun i => wi (lo + (i : Nat))
def enumW : Nat → List W → List W
  | _, [] => []
  | n, w :: r => mkTup [wi (n : Nat), w] :: enumW (n + 1) r
def itS1 (w : W) : M Itm := fun S => match seqOf S w with
  | some (_, xs) => .ok ⟨xs, match w with | .ref i => some (i, xs) | _ => none⟩ S
  | none => match w with
    | .d (.str z) => .ok ⟨z.cps.toList.map fun c => .d (.str ⟨#[c]⟩), none⟩ S
    | _ => .fail
def itSeq : List W → M Itm
  | [w], S => itS1 w S
  | _, _ => .fail
def itR1 : List W → M Itm
  | [.d (.int j)], S => if -(2 ^ 62) ≤ j ∧ j < 2 ^ 62 then .ok ⟨rngW 0 j.toNat, none⟩ S else .fail
  | _, _ => .fail
def itR2 : List W → M Itm
  | [.d (.int i), .d (.int j)], S => if -(2 ^ 62) ≤ i ∧ i < 2 ^ 62 ∧ -(2 ^ 62) ≤ j ∧ j < 2 ^ 62 then .ok ⟨rngW i (j - i).toNat, none⟩ S else .fail
  | _, _ => .fail
def itRev : List W → M Itm
  | [w], S => match seqOf S w with
    | some (true, xs) => .ok ⟨xs.reverse, match w with | .ref i => some (i, xs) | _ => none⟩ S
    | _ => .fail
  | _, _ => .fail
def itEnum : List W → M Itm
  | [w], S => match seqOf S w with
    | some (true, xs) => .ok ⟨enumW 0 xs, match w with | .ref i => some (i, xs) | _ => none⟩ S
    | _ => .fail
  | _, _ => .fail
def itZip : List W → M Itm
  | [.d (.list xs), .d (.list ys)], S => .ok ⟨(xs.zip ys).map fun p => .d (.tuple [p.1, p.2]), none⟩ S
  | _, _ => .fail
def itM : IK → List W → M Itm
  | .seq => itSeq
  | .range1 => itR1
  | .range2 => itR2
  | .rev => itRev
  | .enum => itEnum
  | .zip => itZip
  | _ => fun _ _ => .fail
noncomputable def forL (F : W → Ev → M Fl) (I : Itm) : List W → Ev → M Fl
  | [], e, S => guardI I S (.ok (.nx e) S)
  | w :: r, e, S => guardI I S ((F w e S).bind fun fl S => match fl with
    | .nx e => forL F I r e S
    | .ct e => forL F I r e S
    | .bk e => .ok (.nx e) S
    | .ret v => .ok (.ret v) S)
def whileL (cnd : Ev → M Bool) (F : Ev → M Fl) : Nat → Ev → M Fl
  | 0, _, _ => .fail
  | n + 1, e, S => (cnd e S).bind fun b S => if b = true then (F e S).bind fun fl S => match fl with
    | .nx e => whileL cnd F n e S
    | .ct e => whileL cnd F n e S
    | .bk e => .ok (.nx e) S
    | .ret v => .ok (.ret v) S
    else .ok (.nx e) S
noncomputable def compL (F : W → M (Option W)) (I : Itm) : List W → List W → M (List W)
  | [], acc, S => guardI I S (.ok acc S)
  | w :: r, acc, S => guardI I S (if acc.length < sizeLine then (F w S).bind fun o S => match o with
    | some x => compL F I r (acc ++ [x]) S
    | none => compL F I r acc S
    else .fail)
def noExc {α : Type} (r : Res α) : Res α := match r with
  | .exc _ _ => .fail
  | r => r
def wipeE (e : Ev) : List Nat → Ev
  | [] => e
  | v :: vs => (wipeE e vs).set v none

/-! ### expressions -/
def keysE : List E → Option (List Key)
  | [] => some []
  | .k d :: r => match keyD d, keysE r with
    | some k, some ks => some (k :: ks)
    | _, _ => none
  | _ :: _ => none
def mergeA (kvs : List (Key × W)) (more : List (Key × W)) : List (Key × W) := more.foldl (fun acc kv => putA acc kv.1 kv.2) kvs
def dispM (i : Nat) (kws : List (Key × W)) : M W := fun S => match S.o i with
  | some (.dK []) => .ok (.ref i) (S.set i (.dK (mergeA [] kws)))
  | _ => .fail
mutual
noncomputable def evE (c : Cfg) (e : Ev) : E → M W
  | .v i => fun S => match e[i]? with
    | some (some w) => .ok w S
    | _ => .fail
  | .k x => fun S => if scalD x = true then .ok (.d x) S else .fail
  | .g x => fun S => match c.glb x with
    | some d => .ok (.d d) S
    | none => .fail
  | .tup es => fun S => (evEs c e es S).bind fun ws S => if ws.length ≤ sizeLine then .ok (mkTup ws) S else .fail
  | .lst f es => fun S => (evEs c e es S).bind fun ws S => mkL f ws S
  | .dK => fun S => .ok (.ref S.n) (S.push (.dK []))
  | .dT => fun S => .ok (.ref S.n) (S.push (.dT []))
  | .disp ks vs => fun S => match keysE ks with
    | some keys => if keys.length = vs.length ∧ keys ≠ [] ∧ keys.length ≤ 15 then (evEs c e vs (S.push (.dK []))).bind fun ws S' => dispM S.n (keys.zip ws) S' else .fail
    | none => .fail
  | .bin f op a b => fun S => (evE c e a S).bind fun x S => (evE c e b S).bind fun y S => binM f op x y S
  | .neg a => fun S => (evE c e a S).bind fun x S => match x with
    | .d (.int i) => .ok (wi (-i)) S
    | _ => .fail
  | .cmp op a b => fun S => (evE c e a S).bind fun x S => (evE c e b S).bind fun y S => cmpM op x y S
  | .chain op op' a b d => fun S => (evE c e a S).bind fun x S => (evE c e b S).bind fun y S => (cmpM op x y S).bind fun r S => match r with
    | .d (.bool true) => (evE c e d S).bind fun z S => cmpM op' y z S
    | .d (.bool false) => .ok r S
    | _ => .fail
  | .and a b => fun S => (evE c e a S).bind fun x S => match x with
    | .d (.bool true) => evE c e b S
    | .d (.bool false) => .ok x S
    | _ => .fail
  | .or a b => fun S => (evE c e a S).bind fun x S => match x with
    | .d (.bool false) => evE c e b S
    | .d (.bool true) => .ok x S
    | _ => .fail
  | .not a => fun S => (evE c e a S).bind fun x S => match x with
    | .d (.bool b) => .ok (.d (.bool (!b))) S
    | _ => .fail
  | .ite t a b => fun S => (evT c e t S).bind fun r S => if r = true then evE c e a S else evE c e b S
  | .ix a i => fun S => (evE c e a S).bind fun x S => (evE c e i S).bind fun y S => ixM x y S
  | .sl f a lo hi => fun S => (evE c e a S).bind fun x S => (evO c e lo S).bind fun l S => (evO c e hi S).bind fun h S => slM f x l h S
  | .rv f a => fun S => (evE c e a S).bind fun x S => rvM f x S
  | .fld a f => fun S => (evE c e a S).bind fun x S => fldM c x f S
  | .call x es ds => fun S => (evEs c e es S).bind fun ws S => c.call x (ws ++ ds.map .d) S
  | .new x es => fun S => match c.ini x with
    | some m => (evEs c e es S).bind fun ws S => (c.call m (.ref S.n :: ws) (S.push (.ins x []))).bind fun r S' => if isNone r = true then .ok (.ref S.n) S' else .fail
    | none => .fail
  | .om a m es ds => fun S => (noExc (evE c e a S)).bind fun x S => match x with
    | .ref i => match S.o i with
      | some (.ins cl fs) => match c.mth cl m with
        | some g => if (fs.lookup m).isNone = true then (evEs c e es S).bind fun ws S => c.call g (x :: (ws ++ ds.map .d)) S else .fail
        | none => .fail
      | _ => .fail
    | _ => .fail
  | .ucall cl m es => fun S => (evEs c e es S).bind fun ws S => match c.mth cl m with
    | some g => c.call g ws S
    | none => .fail
  | .bm f a m es => fun S => (evE c e a S).bind fun x S => match kindW S x with
    | some k => if (mid k m).isSome = true then (evEs c e es S).bind fun ws S => bmM f k m x ws S else .fail
    | none => .fail
  | .bi f x es => fun S => (evEs c e es S).bind fun ws S => biM f x ws S
  | .isin a ts => fun S => if ts.all tyNames.contains = true then (evE c e a S).bind fun x S => isinM ts x S else .fail
  | .comp f own p k es cd el => fun S => (evEs c e es S).bind fun ws S => (itM k ws S).bind fun I S =>
      (noExc (compL (fun w S => match bindPt p w (wipeE e own) S with
        | some e' => (evOT c e' cd S).bind fun b S => if b = true then (evE c e' el S).bind fun x S => .ok (some x) S else .ok none S
        | none => .fail) I I.ws [] S)).bind fun xs S => mkL f xs S
  | .fz a => fun S => (evE c e a S).bind fun x S => fzM 8 x S
noncomputable def evEs (c : Cfg) (e : Ev) : List E → M (List W)
  | [] => fun S => .ok [] S
  | a :: r => fun S => (evE c e a S).bind fun x S => (evEs c e r S).bind fun xs S => .ok (x :: xs) S
noncomputable def evO (c : Cfg) (e : Ev) : Option E → M (Option Int)
  | none => fun S => .ok none S
  | some a => fun S => (evE c e a S).bind fun x S => match x with
    | .d (.int i) => .ok (some i) S
    | _ => .fail
noncomputable def evOT (c : Cfg) (e : Ev) : Option Tst → M Bool
  | none => fun S => .ok true S
  | some a => fun S => evT c e a S
noncomputable def evT (c : Cfg) (e : Ev) : Tst → M Bool
  | .e a => fun S => (evE c e a S).bind fun x S => match truD S x with
    | some b => .ok b S
    | none => .fail
  | .and a b => fun S => (evT c e a S).bind fun x S => if x = true then evT c e b S else .ok false S
  | .or a b => fun S => (evT c e a S).bind fun x S => if x = true then .ok true S else evT c e b S
  | .not a => fun S => (evT c e a S).bind fun x S => .ok (!x) S
end

/-! ### statements -/
def augM (op : B) (x y : W) : M W := fun S => match op, x, y with
  | .add, .d (.int i), .d (.int j) => .ok (wi (i + j)) S
  | .sub, .d (.int i), .d (.int j) => .ok (wi (i - j)) S
  | _, _, _ => .fail
def putL (f : String) (v : W) : List (String × W) → List (String × W)
  | [] => [(f, v)]
  | (g, x) :: r => if g = f then (g, v) :: r else (g, x) :: putL f v r
def clsW (S : St) : W → Option String
  | .ref i => match S.o i with
    | some (.ins c _) => some c
    | _ => none
  | _ => none
/-- x.f = v -/
def fsetM (c : Cfg) (x : W) (f : String) (v : W) (S : St) : Option St := match x with
  | .ref i => match S.o i with
    | some (.ins cl fs) => if (c.fls cl).contains f = true ∧ fs.length < 1000 then some (S.set i (.ins cl (putL f v fs))) else none
    | _ => none
  | _ => none
/-- x[i] = v -/
def ssetM (x i v : W) (S : St) : Option St := match x with
  | .ref a => match S.o a with
    | some (.lst ws) => match i with
      | .d (.int k) => match ixN ws.length k with
        | some j => some (S.set a (.lst (ws.set j v)))
        | none => none
      | _ => none
    | _ => dPut S a i v
  | _ => none
def upS (o : Option St) (e : Ev) : Res Fl := match o with
  | some S => .ok (.nx e) S
  | none => .fail
mutual
noncomputable def exS (c : Cfg) : S → Ev → M Fl
  | .asg p a, e, S => (evE c e a S).bind fun x S => match bindPt p x e S with
    | some e' => .ok (.nx e') S
    | none => .fail
  | .sset a i b, e, S => (evE c e b S).bind fun v S => (evE c e a S).bind fun x S => (evE c e i S).bind fun y S => upS (ssetM x y v S) e
  | .fset a f b, e, S => (evE c e b S).bind fun v S => (evE c e a S).bind fun x S => upS (fsetM c x f v S) e
  | .augv i op b, e, S => match e[i]? with
    | some (some x) => (evE c e b S).bind fun y S => (augM op x y S).bind fun z S => .ok (.nx (e.set i (some z))) S
    | _ => .fail
  | .augf a f op b, e, S => (evE c e a S).bind fun x S1 => (fldM c x f S1).bind fun v S => (evE c e b S).bind fun y S => (augM op v y S).bind fun z S => if clsW S x = clsW S1 x then upS (fsetM c x f z S) e else .fail
  | .augs a i op b, e, S => (evE c e a S).bind fun x S => (evE c e i S).bind fun k S => match x with
    | .ref j => match dGet S j k with
      | some (some v) => (evE c e b S).bind fun y S => (augM op v y S).bind fun z S => upS (dPut S j k z) e
      | _ => .fail
    | _ => .fail
  | .ex a, e, S => (evE c e a S).bind fun _ S => .ok (.nx e) S
  | .ret a, e, S => (evE c e a S).bind fun x S => .ok (.ret x) S
  | .retn, e, S => .ok (.ret (.d .none)) S
  | .ite t a b, e, S => (evT c e t S).bind fun r S => if r = true then exSs c a e S else exSs c b e S
  | .for_ p k es b, e, S => (evEs c e es S).bind fun ws S => (itM k ws S).bind fun I S =>
      forL (fun w e S => match bindPt p w e S with
        | some e' => exSs c b e' S
        | none => .fail) I I.ws e S
  | .whl t b, e, S => whileL (fun e S => evT c e t S) (fun e S => exSs c b e S) c.fuel e S
  | .rs x, e, S => .exc x S
  | .pass, e, S => .ok (.nx e) S
  | .cont, e, S => .ok (.ct e) S
  | .brk, e, S => .ok (.bk e) S
  | .try_ b x i h, e, S => .fail
noncomputable def exSs (c : Cfg) : List S → Ev → M Fl
  | [], e, S => .ok (.nx e) S
  | s :: r, e, S => (exS c s e S).bind fun fl S => match fl with
    | .nx e' => exSs c r e' S
    | fl => .ok fl S
end

/-! ### defs -/
structure Def where
  np : Nat
  ns : Nat
  dfl : List PyData
  body : List S
def startE (n : Nat) (ws : List W) : Ev := ws.map some ++ List.replicate (n - ws.length) none
noncomputable def runDef (c : Cfg) (f : Def) (ws : List W) : M W := fun S =>
  if ws.length = f.np then (exSs c f.body (startE f.ns ws) S).bind fun fl S => match fl with
    | .nx _ => .ok (.d .none) S
    | .ret w => .ok w S
    | _ => .fail
  else .fail
structure Prog where
  defs : String → Option Def
  mth : String → String → Option String
  ini : String → Option String
  fls : String → List String
  glb : String → Option PyData
  fuel : Nat
noncomputable def cfgN (P : Prog) : Nat → Cfg
  | 0 => ⟨fun _ _ _ => .fail, P.mth, P.ini, P.fls, P.glb, P.fuel⟩
  | k + 1 => ⟨fun x ws S => match P.defs x with
    | some f => runDef (cfgN P k) f ws S
    | none => .fail, P.mth, P.ini, P.fls, P.glb, P.fuel⟩
end Py

/-! Rel: what the small machine's values and store are in the model's heap. -/
namespace Py
open PySem L2
open Evl (Ex ex_l ex_t ex_rd fresh_back)

abbrev KF := PySem.W.Frag
mutual
/-- pure data at a value -/
inductive DV (K : KF) (R : Hp) : V → PyData → Prop
  | non : DV K R .non .none
  | bl (b : Bool) : DV K R (.bl b) (.bool b)
  | int (i : Int) : DV K R (.int i) (.int i)
  | str (x : Str) : DV K R (.str x) (.str x)
  | lst {a : Addr} {vs : List V} {ds : List PyData} : Rd R a (.lst vs) → DVs K R vs ds → DV K R (.ref a) (.list ds)
  | tup {a : Addr} {vs : List V} {ds : List PyData} : R a = some (.tup vs) → DVs K R vs ds → DV K R (.ref a) (.tuple ds)
  | ktup {a : Addr} {vs : List V} {ds : List PyData} : SqT K R a vs → 3 ≤ ds.length → DVs K R vs ds → DV K R (.ref a) (.tuple ds)
inductive DVs (K : KF) (R : Hp) : List V → List PyData → Prop
  | nil : DVs K R [] []
  | cons {v : V} {vs : List V} {d : PyData} {ds : List PyData} : DV K R v d → DVs K R vs ds → DVs K R (v :: vs) (d :: ds)
end
mutual
theorem DV.mono {K : KF} {R R' : Hp} (e : Ex R R') : ∀ {v : V} {x : PyData}, DV K R v x → DV K R' v x
  | _, _, .non => .non
  | _, _, .bl b => .bl b
  | _, _, .int i => .int i
  | _, _, .str x => .str x
  | _, _, .lst h hs => .lst (ex_rd e h) (DVs.mono e hs)
  | _, _, .tup h hs => .tup (e _ _ h) (DVs.mono e hs)
  | _, _, .ktup h h3 hs => .ktup (ex_t e h) h3 (DVs.mono e hs)
theorem DVs.mono {K : KF} {R R' : Hp} (e : Ex R R') : ∀ {v : List V} {x : List PyData}, DVs K R v x → DVs K R' v x
  | _, _, .nil => .nil
  | _, _, .cons h hs => .cons (h.mono e) (DVs.mono e hs)
end
theorem st_of {K : KF} {H : Hp} {a : Addr} {xs : List V} (h : H a = some (.tup xs)) : SqT K H a xs := Or.inl (Or.inl h)
mutual
theorem DV.dp {K : KF} {R : Hp} : ∀ {v : V} {x : PyData}, DV K R v x → Dp K R v x
  | _, _, .non => .non
  | _, _, .bl b => .bl b
  | _, _, .int i => .int i
  | _, _, .str x => .str x
  | _, _, .lst h hs => .lst (.inl h) (DVs.dp hs)
  | _, _, .tup h hs => .tup (st_of h) (DVs.dp hs)
  | _, _, .ktup h h3 hs => .tup h (DVs.dp hs)
theorem DVs.dp {K : KF} {R : Hp} : ∀ {v : List V} {x : List PyData}, DVs K R v x → DpAll K R v x
  | _, _, .nil => .nil
  | _, _, .cons h hs => .cons h.dp (DVs.dp hs)
end
mutual
theorem Dp.mono {K : KF} {R R' : Hp} (e : Ex R R') : ∀ {v : V} {x : PyData}, Dp K R v x → Dp K R' v x
  | _, _, .non => .non
  | _, _, .bl b => .bl b
  | _, _, .int i => .int i
  | _, _, .str x => .str x
  | _, _, .lst h hs => .lst (ex_l e h) (DpAll.mono e hs)
  | _, _, .tup h hs => .tup (ex_t e h) (DpAll.mono e hs)
theorem DpAll.mono {K : KF} {R R' : Hp} (e : Ex R R') : ∀ {v : List V} {x : List PyData}, DpAll K R v x → DpAll K R' v x
  | _, _, .nil => .nil
  | _, _, .cons h hs => .cons (Dp.mono e h) (DpAll.mono e hs)
end
theorem DVs.length {K : KF} {R : Hp} : ∀ {vs : List V} {ds : List PyData}, DVs K R vs ds → vs.length = ds.length
  | _, _, .nil => rfl
  | _, _, .cons _ hs => congrArg Nat.succ (DVs.length hs)

/-! ### values with things of the store -/
mutual
inductive RV (K : KF) (μ : Nat → Addr) (n : Nat) (R : Hp) : W → V → Prop
  | d {x : PyData} {v : V} : DV K R v x → RV K μ n R (.d x) v
  | ref {i : Nat} : i < n → RV K μ n R (.ref i) (.ref (μ i))
  | tup {a : Addr} {ws : List W} {vs : List V} : R a = some (.tup vs) → RVs K μ n R ws vs → RV K μ n R (.tup ws) (.ref a)
  | scr {a : Addr} {ns : List Int} : SqL K R a (ns.map V.int) → RV K μ n R (.scr ns) (.ref a)
inductive RVs (K : KF) (μ : Nat → Addr) (n : Nat) (R : Hp) : List W → List V → Prop
  | nil : RVs K μ n R [] []
  | cons {w : W} {ws : List W} {v : V} {vs : List V} : RV K μ n R w v → RVs K μ n R ws vs → RVs K μ n R (w :: ws) (v :: vs)
end
/-- the world grows -/
structure Grow (μ : Nat → Addr) (n : Nat) (R : Hp) (μ' : Nat → Addr) (n' : Nat) (R' : Hp) : Prop where
  le : n ≤ n'
  eq : ∀ i, i < n → μ' i = μ i
  ex : Ex R R'
theorem Grow.refl (μ : Nat → Addr) (n : Nat) (R : Hp) : Grow μ n R μ n R := ⟨Nat.le_refl _, fun _ _ => rfl, Ex.refl R⟩
theorem Grow.trans {μ μ1 μ2 : Nat → Addr} {n n1 n2 : Nat} {R R1 R2 : Hp} (a : Grow μ n R μ1 n1 R1) (b : Grow μ1 n1 R1 μ2 n2 R2) : Grow μ n R μ2 n2 R2 :=
  ⟨Nat.le_trans a.le b.le, fun i h => (b.eq i (Nat.lt_of_lt_of_le h a.le)).trans (a.eq i h), a.ex.trans b.ex⟩
section
variable {K : KF} {μ μ' : Nat → Addr} {n n' : Nat} {R R' : Hp}
mutual
theorem RV.mono (g : Grow μ n R μ' n' R') : ∀ {w : W} {v : V}, RV K μ n R w v → RV K μ' n' R' w v
  | _, _, .d h => .d (h.mono g.ex)
  | _, _, .ref (i := i) h => by
    rw [← g.eq i h]
    exact .ref (Nat.lt_of_lt_of_le h g.le)
  | _, _, .tup h hs => .tup (g.ex _ _ h) (RVs.mono g hs)
  | _, _, .scr h => .scr (ex_l g.ex h)
theorem RVs.mono (g : Grow μ n R μ' n' R') : ∀ {w : List W} {v : List V}, RVs K μ n R w v → RVs K μ' n' R' w v
  | _, _, .nil => .nil
  | _, _, .cons h hs => .cons (h.mono g) (RVs.mono g hs)
end
theorem RVs.length : ∀ {ws : List W} {vs : List V}, RVs K μ n R ws vs → ws.length = vs.length
  | _, _, .nil => rfl
  | _, _, .cons _ hs => congrArg Nat.succ (RVs.length hs)
theorem RVs.append : ∀ {ws xs : List W} {vs us : List V}, RVs K μ n R ws vs → RVs K μ n R xs us → RVs K μ n R (ws ++ xs) (vs ++ us)
  | _, _, _, _, .nil, h => h
  | _, _, _, _, .cons a b, h => .cons a (RVs.append b h)
theorem RVs.get : ∀ {ws : List W} {vs : List V} {i : Nat} {w : W}, RVs K μ n R ws vs → ws[i]? = some w → ∃ v, vs[i]? = some v ∧ RV K μ n R w v
  | _, _, _, _, .nil, e => by simp at e
  | _, _, 0, _, .cons a _, e => by
    simp at e
    subst e
    exact ⟨_, rfl, a⟩
  | _, _, i + 1, _, .cons _ b, e => by
    obtain ⟨v, h1, h2⟩ := RVs.get (i := i) b (by simpa using e)
    exact ⟨v, by simpa using h1, h2⟩
theorem RVs.set {x : W} {u : V} (r : RV K μ n R x u) : ∀ {ws : List W} {vs : List V} (i : Nat), RVs K μ n R ws vs → RVs K μ n R (ws.set i x) (vs.set i u)
  | _, _, _, .nil => .nil
  | _, _, 0, .cons _ t => .cons r t
  | _, _, i + 1, .cons q t => .cons q (RVs.set r i t)
theorem RVs.take : ∀ {ws : List W} {vs : List V} (k : Nat), RVs K μ n R ws vs → RVs K μ n R (ws.take k) (vs.take k)
  | _, _, 0, _ => .nil
  | _, _, _ + 1, .nil => .nil
  | _, _, k + 1, .cons a b => .cons a (RVs.take k b)
theorem RVs.drop : ∀ {ws : List W} {vs : List V} (k : Nat), RVs K μ n R ws vs → RVs K μ n R (ws.drop k) (vs.drop k)
  | _, _, 0, h => h
  | _, _, _ + 1, .nil => .nil
  | _, _, k + 1, .cons _ b => RVs.drop k b
theorem RVs.dropLast : ∀ {ws : List W} {vs : List V}, RVs K μ n R ws vs → RVs K μ n R ws.dropLast vs.dropLast
  | _, _, .nil => .nil
  | _, _, .cons a .nil => .nil
  | _, _, .cons a (.cons b c) => .cons a (RVs.dropLast (.cons b c))
theorem RVs.reverse {ws : List W} {vs : List V} (h : RVs K μ n R ws vs) : RVs K μ n R ws.reverse vs.reverse := by
  have key : ∀ {ws xs : List W} {vs us : List V}, RVs K μ n R ws vs → RVs K μ n R xs us → RVs K μ n R (ws.reverseAux xs) (vs.reverseAux us) := by
    intro ws
    induction ws with
    | nil => intro xs vs us h1 h2; cases h1; exact h2
    | cons w ws ih =>
      intro xs vs us h1 h2
      cases h1 with
      | cons a b =>
        rename_i v vs
        show RVs K μ n R (ws.reverseAux (w :: xs)) (vs.reverseAux (v :: us))
        exact ih b (.cons a h2)
  exact key h .nil
theorem RVs.replicate {ws : List W} {vs : List V} (h : RVs K μ n R ws vs) : ∀ k : Nat, RVs K μ n R (List.replicate k ws).flatten (List.replicate k vs).flatten
  | 0 => .nil
  | k + 1 => by
    rw [List.replicate_succ, List.replicate_succ, List.flatten_cons, List.flatten_cons]
    exact h.append (RVs.replicate h k)
theorem RVs.of_d : ∀ {ds : List PyData} {vs : List V}, DVs K R vs ds → RVs K μ n R (ds.map .d) vs
  | _, _, .nil => .nil
  | _, _, .cons a b => .cons (.d a) (RVs.of_d b)
theorem RVs.of_ints : ∀ ns : List Int, RVs K μ n R (ns.map fun i => .d (.int i)) (ns.map V.int)
  | [] => .nil
  | i :: r => .cons (.d (.int i)) (RVs.of_ints r)
theorem DpAll.of_ints : ∀ ns : List Int, DpAll K R (ns.map V.int) (ns.map .int)
  | [] => .nil
  | i :: r => .cons (.int i) (DpAll.of_ints r)
theorem RVs.to_d : ∀ {ws : List W} {vs : List V} {ds : List PyData}, RVs K μ n R ws vs → allD ws = some ds → DVs K R vs ds
  | [], _, ds, .nil, e => by
    unfold allD at e
    cases e
    exact .nil
  | .d x :: r, _, ds, .cons (.d a) b, e => by
    unfold allD at e
    split at e
    · rename_i ds' e'
      cases e
      exact .cons a (RVs.to_d b e')
    · cases e
  | .ref _ :: r, _, ds, .cons _ b, e => by
    unfold allD at e
    cases e
  | .tup _ :: r, _, ds, .cons _ b, e => by
    unfold allD at e
    cases e
  | .scr _ :: r, _, ds, .cons _ b, e => by
    unfold allD at e
    cases e
theorem allD_map (ds : List PyData) : allD (ds.map .d) = some ds := by
  induction ds with
  | nil => rfl
  | cons x r ih =>
    show (match allD (r.map W.d) with
      | some ds => some (x :: ds)
      | none => none) = some (x :: r)
    rw [ih]
/-- a dict's, an instance's pairs -/
def RKs {κ : Type} (K : KF) (μ : Nat → Addr) (n : Nat) (R : Hp) : List (κ × W) → List (κ × V) → Prop := Paired fun p q => p.1 = q.1 ∧ RV K μ n R p.2 q.2
def RFs (K : KF) (μ : Nat → Addr) (n : Nat) (R : Hp) : List (String × W) → List (Str × V) → Prop := Paired fun p q => Str.ofString p.1 = q.1 ∧ RV K μ n R p.2 q.2
theorem Paired.imp {α β : Type} {F G : α → β → Prop} : ∀ {l₁ : List α} {l₂ : List β}, Paired F l₁ l₂ → (∀ a b, F a b → G a b) → Paired G l₁ l₂
  | _, _, .nil, _ => .nil
  | _, _, .cons r t, f => .cons (f _ _ r) (Paired.imp t f)
theorem RKs.mono {κ : Type} (g : Grow μ n R μ' n' R') {a : List (κ × W)} {b : List (κ × V)} (h : RKs K μ n R a b) : RKs K μ' n' R' a b := Paired.imp h fun _ _ q => ⟨q.1, q.2.mono g⟩
theorem RFs.mono (g : Grow μ n R μ' n' R') {a : List (String × W)} {b : List (Str × V)} (h : RFs K μ n R a b) : RFs K μ' n' R' a b := Paired.imp h fun _ _ q => ⟨q.1, q.2.mono g⟩
end
/-- the classes' addresses; what else of the heap is to stay as it is -/
structure CF where
  ca : String → Addr
  F : Hp
/-- what stands in the heap for a thing of the store -/
inductive HolO (K : KF) (ca : CF) (μ : Nat → Addr) (n : Nat) (R : Hp) : O → HO → Prop
  | lst {ws : List W} {vs : List V} : RVs K μ n R ws vs → HolO K ca μ n R (.lst ws) (.lst vs)
  | dK {kvs : List (Key × W)} {hvs : List (Key × V)} : RKs K μ n R kvs hvs → HolO K ca μ n R (.dK kvs) (.dK hvs)
  | dT {kvs : List (List Key × W)} {hvs : List (List Key × V)} : RKs K μ n R kvs hvs → HolO K ca μ n R (.dT kvs) (.dT hvs)
  | fK {kvs : List (Key × W)} {hvs : List (Key × V)} {o : Obj} : RKs K μ n R kvs hvs → HolO K ca μ n R (.fK kvs) (.frz o (.dK hvs))
  | fT {kvs : List (List Key × W)} {hvs : List (List Key × V)} {o : Obj} : RKs K μ n R kvs hvs → HolO K ca μ n R (.fT kvs) (.frz o (.dT hvs))
  | ins {c : String} {dx : Addr} {fs : List (String × W)} {hs : List (Str × V)} : RFs K μ n R fs hs → HolO K ca μ n R (.ins c fs) (.ins (ca.ca c) dx hs)
theorem HolO.mono {K : KF} {ca : CF} {μ μ' : Nat → Addr} {n n' : Nat} {R R' : Hp} (g : Grow μ n R μ' n' R') {o : O} {h : HO} (q : HolO K ca μ n R o h) : HolO K ca μ' n' R' o h := by
  cases q with
  | lst r => exact .lst (r.mono g)
  | dK r => exact .dK (r.mono g)
  | dT r => exact .dT (r.mono g)
  | fK r => exact .fK (r.mono g)
  | fT r => exact .fT (r.mono g)
  | ins r => exact .ins (r.mono g)
/-- the store S lies in H by μ; R: what of H is data -/
structure Lay (K : KF) (ca : CF) (S : St) (μ : Nat → Addr) (H R : Hp) : Prop where
  dom : ∀ i o, S.o i = some o → i < S.n
  inj : ∀ i j oi oj, S.o i = some oi → S.o j = some oj → μ i = μ j → i = j
  hol : ∀ i o, S.o i = some o → ∃ h, H (μ i) = some h ∧ HolO K ca μ S.n R o h
  sub : Ex R H
  off : ∀ i o, S.o i = some o → R (μ i) = none
  frm : ∀ a o, ca.F a = some o → H a = some o ∧ R a = none ∧ ∀ i u, S.o i = some u → μ i ≠ a
section
variable {K : KF} {ca : CF} {S : St} {μ : Nat → Addr} {H R : Hp}
/-- a new object that is data from now on -/
theorem Lay.newD (L : Lay K ca S μ H R) {p : Addr} {h : HO} (hp : H p = none) : Lay K ca S μ (upd H p h) (upd R p h) ∧ Grow μ S.n R μ S.n (upd R p h) := by
  have rp : R p = none := fresh_back L.sub hp
  have g : Grow μ S.n R μ S.n (upd R p h) := ⟨Nat.le_refl _, fun _ _ => rfl, Ex.new rp⟩
  have ne : ∀ i o, S.o i = some o → μ i ≠ p := fun i o e z => by
    obtain ⟨h', e', _⟩ := L.hol i o e
    rw [z, hp] at e'
    cases e'
  refine ⟨⟨L.dom, L.inj, fun i o e => ?_, fun a u e => ?_, fun i o e => ?_, fun a u e => ?_⟩, g⟩
  · obtain ⟨h', e', q⟩ := L.hol i o e
    exact ⟨h', by rw [upd_ne (ne i o e)]; exact e', q.mono g⟩
  · by_cases ha : a = p
    · subst ha
      rw [upd_same] at e ⊢
      exact e
    · rw [upd_ne ha] at e ⊢
      exact L.sub a u e
  · rw [upd_ne (ne i o e)]
    exact L.off i o e
  · obtain ⟨f1, f2, f3⟩ := L.frm a u e
    have hap : a ≠ p := ne_of_none f1 hp
    exact ⟨by rw [upd_ne hap]; exact f1, by rw [upd_ne hap]; exact f2, f3⟩
/-- a new thing of the store -/
def ext (μ : Nat → Addr) (n : Nat) (p : Addr) : Nat → Addr := fun i => if i = n then p else μ i
theorem ext_same {μ : Nat → Addr} {n : Nat} {p : Addr} : ext μ n p n = p := if_pos rfl
theorem ext_ne {μ : Nat → Addr} {n i : Nat} {p : Addr} (h : i ≠ n) : ext μ n p i = μ i := if_neg h
theorem Lay.grow_push (L : Lay K ca S μ H R) (p : Addr) : Grow μ S.n R (ext μ S.n p) (S.n + 1) R :=
  ⟨Nat.le_succ _, fun i h => ext_ne (Nat.ne_of_lt h), Ex.refl R⟩
theorem Lay.newS (L : Lay K ca S μ H R) {p : Addr} {o : O} {h : HO} (hp : H p = none) (q : HolO K ca (ext μ S.n p) (S.n + 1) R o h) : Lay K ca (S.push o) (ext μ S.n p) (upd H p h) R := by
  have rp : R p = none := fresh_back L.sub hp
  have g := L.grow_push p
  have ne : ∀ i o, S.o i = some o → μ i ≠ p := fun i o e z => by
    obtain ⟨h', e', _⟩ := L.hol i o e
    rw [z, hp] at e'
    cases e'
  have old : ∀ {i : Nat} {u : O}, (S.push o).o i = some u → (i = S.n ∧ u = o) ∨ (i ≠ S.n ∧ S.o i = some u) := fun {i u} e => by
    have e : (if i = S.n then some o else S.o i) = some u := e
    by_cases hi : i = S.n
    · rw [if_pos hi] at e
      cases e
      exact .inl ⟨hi, rfl⟩
    · rw [if_neg hi] at e
      exact .inr ⟨hi, e⟩
  refine ⟨fun i u e => ?_, fun i j u w e1 e2 z => ?_, fun i u e => ?_, fun a u e => ?_, fun i u e => ?_, fun a u e => ?_⟩
  · rcases old e with ⟨rfl, _⟩ | ⟨_, e⟩
    · exact Nat.lt_succ_self _
    · exact Nat.lt_succ_of_lt (L.dom i u e)
  · rcases old e1 with ⟨h1, _⟩ | ⟨h1, e1⟩ <;> rcases old e2 with ⟨h2, _⟩ | ⟨h2, e2⟩
    · rw [h1, h2]
    · rw [h1, ext_same, ext_ne h2] at z
      exact absurd z.symm (ne j w e2)
    · rw [h2, ext_same, ext_ne h1] at z
      exact absurd z (ne i u e1)
    · rw [ext_ne h1, ext_ne h2] at z
      exact L.inj i j u w e1 e2 z
  · rcases old e with ⟨rfl, rfl⟩ | ⟨h1, e⟩
    · rw [ext_same]
      exact ⟨h, upd_same, q⟩
    · obtain ⟨h', e', q'⟩ := L.hol i u e
      rw [ext_ne h1]
      exact ⟨h', by rw [upd_ne (ne i u e)]; exact e', q'.mono g⟩
  · rw [upd_ne (ne_of_none e rp)]
    exact L.sub a u e
  · rcases old e with ⟨rfl, _⟩ | ⟨h1, e⟩
    · rw [ext_same]
      exact rp
    · rw [ext_ne h1]
      exact L.off i u e
  · obtain ⟨f1, f2, f3⟩ := L.frm a u e
    have hap : a ≠ p := ne_of_none f1 hp
    refine ⟨by rw [upd_ne hap]; exact f1, f2, fun i w e' => ?_⟩
    rcases old e' with ⟨rfl, _⟩ | ⟨h1, e'⟩
    · rw [ext_same]
      exact hap.symm
    · rw [ext_ne h1]
      exact f3 i w e'
/-- a thing of the store is changed -/
theorem Lay.put (L : Lay K ca S μ H R) {i : Nat} {o u : O} {h : HO} (e : S.o i = some u) (q : HolO K ca μ S.n R o h) : Lay K ca (S.set i o) μ (upd H (μ i) h) R := by
  have old : ∀ {j : Nat} {v : O}, (S.set i o).o j = some v → (j = i ∧ v = o) ∨ (j ≠ i ∧ S.o j = some v) := fun {j v} e => by
    have e : (if j = i then some o else S.o j) = some v := e
    by_cases hj : j = i
    · rw [if_pos hj] at e
      cases e
      exact .inl ⟨hj, rfl⟩
    · rw [if_neg hj] at e
      exact .inr ⟨hj, e⟩
  have there : ∀ {j : Nat} {v : O}, (S.set i o).o j = some v → ∃ w, S.o j = some w := fun {j v} e' => by
    rcases old e' with ⟨rfl, _⟩ | ⟨_, e'⟩
    · exact ⟨u, e⟩
    · exact ⟨v, e'⟩
  refine ⟨fun j v e' => ?_, fun j k v w e1 e2 z => ?_, fun j v e' => ?_, fun a v e' => ?_, fun j v e' => ?_, fun a v e' => ?_⟩
  · obtain ⟨w, e'⟩ := there e'
    exact L.dom j w e'
  · obtain ⟨v', e1⟩ := there e1
    obtain ⟨w', e2⟩ := there e2
    exact L.inj j k v' w' e1 e2 z
  · rcases old e' with ⟨rfl, rfl⟩ | ⟨h1, e'⟩
    · exact ⟨h, upd_same, q⟩
    · obtain ⟨h', e2, q'⟩ := L.hol j v e'
      exact ⟨h', by rw [upd_ne fun z => h1 (L.inj j i v u e' e z)]; exact e2, q'⟩
  · have hne : a ≠ μ i := fun z => by
      have := L.off i u e
      rw [← z, e'] at this
      cases this
    rw [upd_ne hne]
    exact L.sub a v e'
  · obtain ⟨w, e'⟩ := there e'
    exact L.off j w e'
  · obtain ⟨f1, f2, f3⟩ := L.frm a v e'
    refine ⟨by rw [upd_ne (f3 i u e).symm]; exact f1, f2, fun j w e2 => ?_⟩
    obtain ⟨w', e2⟩ := there e2
    exact f3 j w' e2
/-- a list of the store becomes data -/
theorem Lay.freeze (L : Lay K ca S μ H R) {i : Nat} {ws : List W} {ds : List PyData} (e : S.o i = some (.lst ws)) (hd : allD ws = some ds) :
    ∃ R', Lay K ca (S.del i) μ H R' ∧ Grow μ S.n R μ S.n R' ∧ DV K R' (.ref (μ i)) (.list ds) := by
  obtain ⟨h, e1, q⟩ := L.hol i _ e
  cases q with
  | lst r =>
    rename_i vs
    have rp := L.off i _ e
    have g : Grow μ S.n R μ S.n (upd R (μ i) (.lst vs)) := ⟨Nat.le_refl _, fun _ _ => rfl, Ex.new rp⟩
    have old : ∀ {j : Nat} {v : O}, (S.del i).o j = some v → j ≠ i ∧ S.o j = some v := fun {j v} e' => by
      have e' : (if j = i then none else S.o j) = some v := e'
      by_cases hj : j = i
      · rw [if_pos hj] at e'
        cases e'
      · rw [if_neg hj] at e'
        exact ⟨hj, e'⟩
    refine ⟨upd R (μ i) (.lst vs), ⟨fun j v e' => L.dom j v (old e').2, fun j k v w e1 e2 z => L.inj j k v w (old e1).2 (old e2).2 z, fun j v e' => ?_, fun a v e' => ?_, fun j v e' => ?_, fun a v e' => ?_⟩, g,
      .lst (.inl upd_same) ((r.to_d hd).mono g.ex)⟩
    · obtain ⟨h', e2, q'⟩ := L.hol j v (old e').2
      exact ⟨h', e2, q'.mono g⟩
    · by_cases ha : a = μ i
      · subst ha
        rw [upd_same] at e'
        cases e'
        exact e1
      · rw [upd_ne ha] at e'
        exact L.sub a v e'
    · rw [upd_ne fun z => (old e').1 (L.inj j i v _ (old e').2 e z)]
      exact L.off j v (old e').2
    · obtain ⟨f1, f2, f3⟩ := L.frm a v e'
      exact ⟨f1, by rw [upd_ne (f3 i _ e).symm]; exact f2, fun j w e2 => f3 j w (old e2).2⟩
/-- a list or tuple, as it stands in H -/
theorem Lay.seq (L : Lay K ca S μ H R) {w : W} {v : V} {b : Bool} {ws : List W} (r : RV K μ S.n R w v) (e : seqOf S w = some (b, ws)) :
    ∃ a vs, v = .ref a ∧ RVs K μ S.n R ws vs ∧ ((b = true ∧ SqL K H a vs) ∨ (b = false ∧ SqT K H a vs)) := by
  cases r with
  | d h =>
    cases h with
    | lst h hs =>
      cases e
      exact ⟨_, _, rfl, .of_d hs, .inl ⟨rfl, .inl (ex_rd L.sub h)⟩⟩
    | tup h hs =>
      cases e
      exact ⟨_, _, rfl, .of_d hs, .inr ⟨rfl, st_of (L.sub _ _ h)⟩⟩
    | ktup h h3 hs =>
      cases e
      exact ⟨_, _, rfl, .of_d hs, .inr ⟨rfl, ex_t L.sub h⟩⟩
    | _ => cases e
  | tup h hs =>
    cases e
    exact ⟨_, _, rfl, hs, .inr ⟨rfl, st_of (L.sub _ _ h)⟩⟩
  | scr h =>
    cases e
    exact ⟨_, _, rfl, .of_ints _, .inl ⟨rfl, ex_l L.sub h⟩⟩
  | ref hi =>
    rename_i i
    have e : (match S.o i with
      | some (.lst ws) => some (true, ws)
      | _ => none) = some (b, ws) := e
    split at e
    · rename_i ws' e'
      cases e
      obtain ⟨h, e1, q⟩ := L.hol i _ e'
      cases q with
      | lst r => exact ⟨_, _, rfl, r, .inl ⟨rfl, .inl (.inl e1)⟩⟩
    · cases e
/-- a list but the script -/
theorem Lay.lst (L : Lay K ca S μ H R) {w : W} {v : V} {ws : List W} (r : RV K μ S.n R w v) (e : seqOf S w = some (true, ws)) (hs : isScr w = false) : ∃ a vs, v = .ref a ∧ RVs K μ S.n R ws vs ∧ Rd H a (.lst vs) := by
  cases r with
  | d h =>
    cases h with
    | lst h hd =>
      cases e
      exact ⟨_, _, rfl, .of_d hd, ex_rd L.sub h⟩
    | _ => cases e
  | scr h => cases hs
  | tup h hs => cases e
  | ref hi =>
    rename_i i
    have e : (match S.o i with
      | some (.lst ws) => some (true, ws)
      | _ => none) = some (true, ws) := e
    split at e
    · rename_i ws' e'
      cases e
      obtain ⟨h, e1, q⟩ := L.hol i _ e'
      cases q with
      | lst r => exact ⟨_, _, rfl, r, .inl e1⟩
    · cases e
theorem mapO_dp {F : W → Option PyData} {μ : Nat → Addr} {n : Nat} {R H : Hp} (f : ∀ (w : W) (v : V) (x : PyData), RV K μ n R w v → F w = some x → Dp K H v x) : ∀ {ws : List W} {vs : List V} {xs : List PyData}, RVs K μ n R ws vs → mapO F ws = some xs → DpAll K H vs xs
  | _, _, xs, .nil, e => by
    cases e
    exact .nil
  | _, _, xs, .cons (w := w) (ws := ws) a b, e => by
    unfold mapO at e
    split at e
    · rename_i x xs' e1 e2
      cases e
      exact .cons (f _ _ _ a e1) (mapO_dp f b e2)
    · cases e
/-- the data of a value now -/
theorem Lay.toD (L : Lay K ca S μ H R) : ∀ (k : Nat) (w : W) (v : V) (x : PyData), RV K μ S.n R w v → toD S k w = some x → Dp K H v x
  | 0, w, v, x, r, e => by
    cases r with
    | d h =>
      unfold Py.toD at e
      cases e
      exact (h.mono L.sub).dp
    | scr _ => unfold Py.toD at e; cases e
    | ref _ => unfold Py.toD at e; cases e
    | tup _ _ => unfold Py.toD at e; cases e
  | k + 1, w, v, x, r, e => by
    have ih := Lay.toD L k
    cases r with
    | d h =>
      unfold Py.toD at e
      cases e
      exact (h.mono L.sub).dp
    | ref hi =>
      rename_i i
      unfold Py.toD at e
      split at e
      · rename_i ws e'
        obtain ⟨h, e1, q⟩ := L.hol i _ e'
        cases q with
        | lst r =>
          obtain ⟨ds, ed, rfl⟩ := Option.map_eq_some_iff.mp e
          exact .lst (.inl (.inl e1)) (mapO_dp ih r ed)
      · cases e
    | scr h =>
      unfold Py.toD at e
      cases e
      exact .lst (ex_l L.sub h) (DpAll.of_ints _)
    | tup h hs =>
      unfold Py.toD at e
      obtain ⟨ds, ed, rfl⟩ := Option.map_eq_some_iff.mp e
      exact .tup (st_of (L.sub _ _ h)) (mapO_dp ih hs ed)
theorem mkTup_rv {μ : Nat → Addr} {n : Nat} {R : Hp} {a : Addr} {ws : List W} {vs : List V} (h : R a = some (.tup vs)) (hs : RVs K μ n R ws vs) : RV K μ n R (mkTup ws) (.ref a) := by
  unfold mkTup
  split
  · rename_i ds e
    exact .d (.tup h (hs.to_d e))
  · exact .tup h hs
/-- what follows a new list -/
theorem Lay.mkL (L : Lay K ca S μ H R) {f : Bool} {ws : List W} {vs : List V} {p : Addr} {P : W → St → Prop} {E : String → St → Prop} (hp : H p = none) (r : RVs K μ S.n R ws vs) (h : (mkL f ws S).post P E) :
    vs.length ≤ sizeLine ∧ ∃ w S' μ' R', P w S' ∧ Grow μ S.n R μ' S'.n R' ∧ Lay K ca S' μ' (upd H p (.lst vs)) R' ∧ RV K μ' S'.n R' w (.ref p) := by
  unfold Py.mkL at h
  split at h
  · rename_i hl
    rw [r.length] at hl
    refine ⟨hl, ?_⟩
    split at h
    · split at h
      · rename_i ds e
        obtain ⟨L1, g⟩ := L.newD (h := .lst vs) hp
        exact ⟨_, S, μ, _, h, g, L1, .d (.lst (.inl upd_same) ((r.to_d e).mono g.ex))⟩
      · exact False.elim h
    · have g := L.grow_push p
      refine ⟨_, S.push (.lst ws), ext μ S.n p, R, h, g, L.newS hp (.lst (r.mono g)), ?_⟩
      have z : RV K (ext μ S.n p) (S.push (.lst ws)).n R (.ref S.n) (.ref (ext μ S.n p S.n)) := .ref (Nat.lt_succ_self _)
      rw [ext_same] at z
      exact z
  · exact False.elim h
end
end Py

/-! Ops: operators, comparisons, subscripts, truth are what the small machine says. -/
namespace Py
open PySem PySem.Spec PyProof.Rows L2
open Evl (Ex ex_l ex_t ex_rd fresh_back)

section
variable {K : KF} {μ : Nat → Addr} {n : Nat} {R : Hp} {v : V}
theorem RV.int {i : Int} (h : RV K μ n R (.d (.int i)) v) : v = .int i := by
  cases h with | d h => cases h; rfl
theorem RV.str {i : Str} (h : RV K μ n R (.d (.str i)) v) : v = .str i := by
  cases h with | d h => cases h; rfl
theorem RV.bl {i : Bool} (h : RV K μ n R (.d (.bool i)) v) : v = .bl i := by
  cases h with | d h => cases h; rfl
theorem RV.non (h : RV K μ n R (.d .none) v) : v = .non := by
  cases h with | d h => cases h; rfl
theorem RV.rf {i : Nat} (h : RV K μ n R (.ref i) v) : v = .ref (μ i) ∧ i < n := by
  cases h with | ref h => exact ⟨rfl, h⟩
end
/-- what is wanted of a value, a store -/
def PQ (K : KF) (ca : CF) (μ : Nat → Addr) (n : Nat) (R : Hp) (Q : VK) : W → St → Prop := fun w S' => ∀ μ' H' R' v, Grow μ n R μ' S'.n R' → Lay K ca S' μ' H' R' → RV K μ' S'.n R' w v → Q v H'
def OpS (X : Cx) (ca : CF) (f : Value → Value → Sem Value) (g : W → W → M W) : Prop :=
  ∀ (pins : List (Addr × Obj)) (s : Shared) (σ : L2.St) (H : Hp) (v u : Value) (S : St) (μ : Nat → Addr) (R : Hp) (x y : W) (vx vy : V) (Q : VK) (E' : String → St → Prop),
    Inv X pins σ H s → RelV vx v → RelV vy u → Lay X.K ca S μ H R → RV X.K μ S.n R x vx → RV X.K μ S.n R y vy → (g x y S).post (PQ X.K ca μ S.n R Q) E' →
    wpAny (model X.prog X.w) X.A (f v u) (EP X pins σ Q) X.xe s
def bop : B → Operator
  | .add => .Add | .sub => .Sub | .mul => .Mult | .fdiv => .FloorDiv | .mod => .Mod | .pow => .Pow
def cop : C → CmpOp
  | .eq => .Eq | .ne => .NotEq | .lt => .Lt | .le => .LtE | .gt => .Gt | .ge => .GtE | .in_ => .In | .nin => .NotIn | .isN => .Is | .notN => .IsNot
section
variable {X : Cx} {ca : CF}
theorem okW_post {S : St} {o : Option W} {P : W → St → Prop} {E : String → St → Prop} (h : (okW S o).post P E) : ∃ w, o = some w ∧ P w S := by
  cases o with
  | none => exact False.elim h
  | some w => exact ⟨w, rfl, h⟩
theorem okB_post {S : St} {o : Option Bool} {P : W → St → Prop} {E : String → St → Prop} (h : (okB S o).post P E) : ∃ b, o = some b ∧ P (.d (.bool b)) S := by
  cases o with
  | none => exact False.elim h
  | some w => exact ⟨w, rfl, h⟩
/-- a list that is read, as the model has it -/
theorem rd_lst {pins : List (Addr × Obj)} {σ : L2.St} {H : Hp} {s : Shared} {a : Addr} {xs : List V} (I : Inv X pins σ H s) (h : Rd H a (.lst xs)) :
    xs.length ≤ sizeLine ∧ ∃ (its : List Value) (n : Nat), Vals xs its ∧ xs.length = its.length ∧ s.heap.get? a = some { cls := .type "list", data := .seq its.toArray n } := by
  obtain ⟨z, its, n, r, e⟩ := h.ok I.hok
  exact ⟨z, its, n, r, r.length, e⟩
/-- list + list, whichever may be read -/
theorem op_catL : OpR X (binaryOp .Add) (fun x y H Q => ∃ l b xs zs, x = .ref l ∧ y = .ref b ∧ Rd H l (.lst xs) ∧ Rd H b (.lst zs) ∧ xs.length + zs.length ≤ sizeLine ∧ ∀ p, H p = none → Q (.ref p) (upd H p (.lst (xs ++ zs)))) := by
  intro pins s σ H x y v u Q I rx ry h
  obtain ⟨l, b, xs, zs, rfl, rfl, hH, hB, hz, q⟩ := h
  cases rx
  cases ry
  obtain ⟨z, its, n, r, hl, e⟩ := rd_lst I hH
  obtain ⟨z2, its2, n2, r2, hl2, e2⟩ := rd_lst I hB
  refine PySem.P.add_list e e2 ?_ (by rw [List.size_toArray, List.size_toArray]; omega)
  have ea : its.toArray ++ its2.toArray = (its ++ its2).toArray := by simp
  rw [ea]
  exact ⟨.ref _, _, I.lnew (t' := s.toks) (r.append r2) (by rw [List.length_append]; omega), rfl, q _ I.fresh⟩
theorem op_repL : OpR X (binaryOp .Mult) (fun x y H Q => ∃ l k xs, x = .ref l ∧ y = .int k ∧ Rd H l (.lst xs) ∧ -(2 ^ 63) ≤ k ∧ k < 2 ^ 63 ∧ xs.length * k.toNat ≤ sizeLine ∧ ∀ p, H p = none → Q (.ref p) (upd H p (.lst (List.replicate k.toNat xs).flatten))) := by
  intro pins s σ H x y v u Q I rx ry h
  obtain ⟨l, k, xs, rfl, rfl, hH, h1, h2, hz, q⟩ := h
  cases rx
  obtain ⟨t, rfl⟩ := ry
  obtain ⟨z, its, n, r, hl, e⟩ := rd_lst I hH
  have hlen : its.toArray.size * k.toNat ≤ sizeLine := by rw [List.size_toArray, ← hl]; exact hz
  have hcap : ¬ its.toArray.size * k.toNat > (2 ^ 63 - 1) / 8 := by
    have : (sizeLine : Nat) ≤ (2 ^ 63 - 1) / 8 := by decide
    omega
  have hfit : ¬ (!Builtin.List.listFitsIndex k) = true := by
    rw [fitsIndex_both h1 h2]
    exact Bool.false_ne_true
  have hlong : ¬ Builtin.List.listTooLong (its.toArray.size * k.toNat) = true := by
    rw [notLongL hlen]
    exact Bool.false_ne_true
  have hnew : List.foldl (fun x1 x2 => x1 ++ x2) #[] (List.replicate (if its.toArray.isEmpty = true then 0 else k.toNat) its.toArray) = (List.replicate k.toNat its).flatten.toArray := by
    have f0 : ∀ m : Nat, List.foldl (fun x1 x2 => x1 ++ x2) #[] (List.replicate m its.toArray) = (List.replicate m its).flatten.toArray := fun m => by
      have := foldl_rep its m []
      rw [List.nil_append] at this
      exact this
    rw [f0]
    cases its with
    | nil => simp
    | cons a r' => rw [if_neg (by simp)]
  refine wpAny_binaryOp_repeat_ref (T := "list") (U := "int") (by decide) ⟨_, e, rfl⟩ (fun s' => typeIs_int s' k t) noFill_list_mul F.fills_int_mul F.slot_int_rmul repeat_list F.slot_int_index.lookup
    (call_meets F.slot_int_rmul (typeIs_int s k t) F.entry_int_rmul (F.args_int_rmul_2 _ _) (int___rmul___int_list k t l its.toArray n)
      ⟨e, rfl, ⟨_, e, rfl⟩, call_meets F.slot_list_mul ⟨_, e, rfl⟩ F.entry_list_mul (F.args_list_mul_2 _ _) (AutoListH.list___mul___list_int_3 l its.toArray n k t hfit hcap hlong) ⟨e, ?_⟩⟩)
  rw [hnew]
  exact ⟨.ref _, _, I.lnew (t' := s.toks) (r.rep k.toNat) (by rw [PyProof.Rows.lm_len_rep_flat, Nat.mul_comm]; exact hz), rfl, q _ I.fresh⟩
theorem grow0 {K : KF} {ca : CF} {μ : Nat → Addr} {S : St} {H R : Hp} {Q : VK} {w : W} {v : V} (q : PQ K ca μ S.n R Q w S) (L : Lay K ca S μ H R) (r : RV K μ S.n R w v) : Q v H := q μ H R v (Grow.refl _ _ _) L r
theorem intOp_mul {i j k : Int} (h : intOp .mul i j = some k) : k = i * j ∧ (CMul i j ∨ CMulW i j) := by
  have h : (if mulOk i j then some (i * j) else none) = some k := h
  split at h
  · rename_i hm
    cases h
    refine ⟨rfl, ?_⟩
    unfold mulOk at hm
    rw [Bool.or_eq_true, Bool.or_eq_true] at hm
    rcases hm with (hm | hm) | hm
    · have := of_decide_eq_true hm
      exact .inl (.inl (by constructor <;> omega))
    · have := of_decide_eq_true hm
      exact .inl (.inr (by constructor <;> omega))
    · exact .inr (show i.natAbs.log2 + j.natAbs.log2 < 1000000 from of_decide_eq_true hm)
  · cases h
theorem ops_bin (f : Bool) (op : B) : OpS X ca (binaryOp (bop op)) (binM f op) := by
  intro pins s σ H v u S μ R x y vx vy Q E' I rx ry L hx hy h
  unfold binM at h
  split at h
  · rename_i i j
    have ex := hx.int
    have ey := hy.int
    subst ex ey
    obtain ⟨w, e, q⟩ := okW_post h
    obtain ⟨k, e1, e2⟩ := Option.map_eq_some_iff.mp e
    subst e2
    have fin : Q (.int k) H := grow0 q L (.d (.int k))
    cases op with
    | add => cases e1; exact op_add pins s σ H _ _ v u Q I rx ry ⟨_, _, rfl, rfl, fin⟩
    | sub => cases e1; exact op_sub pins s σ H _ _ v u Q I rx ry ⟨_, _, rfl, rfl, fin⟩
    | mul =>
      obtain ⟨rfl, hc | hc⟩ := intOp_mul e1
      · exact op_mul pins s σ H _ _ v u Q I rx ry ⟨_, _, rfl, rfl, hc, fin⟩
      · exact op_mulW pins s σ H _ _ v u Q I rx ry ⟨_, _, rfl, rfl, hc, fin⟩
    | fdiv =>
      have e1 : (if divOk j then some (i / j) else none) = some k := e1
      split at e1
      · rename_i hd
        cases e1
        unfold divOk at hd
        rw [Bool.and_eq_true] at hd
        exact op_fdivW pins s σ H _ _ v u Q I rx ry ⟨_, _, rfl, rfl, ⟨of_decide_eq_true hd.1, of_decide_eq_true hd.2⟩, fin⟩
      · cases e1
    | mod =>
      have e1 : (if 0 < j then some (i % j) else none) = some k := e1
      split at e1
      · rename_i hd
        cases e1
        exact op_mod pins s σ H _ _ v u Q I rx ry ⟨_, _, rfl, rfl, hd, fin⟩
      · cases e1
    | pow =>
      have e1 : (if 0 ≤ j ∧ j ≤ 1000000 ∧ i.natAbs < 2 ^ 64 then some (i ^ j.toNat) else none) = some k := e1
      split at e1
      · rename_i hd
        cases e1
        exact op_pow pins s σ H _ _ v u Q I rx ry ⟨_, _, rfl, rfl, hd, fin⟩
      · cases e1
  · rename_i a b
    have ex := hx.str
    have ey := hy.str
    subst ex ey
    split at h
    · split at h
      · rename_i hl
        exact op_add_str pins s σ H _ _ v u Q I rx ry ⟨_, _, rfl, rfl, hl, grow0 h L (.d (.str _))⟩
      · exact False.elim h
    · exact False.elim h
  · split at h
    · exact False.elim h
    · rename_i hscr
      rw [Bool.or_eq_true, not_or] at hscr
      have sx : isScr x = false := by simpa using hscr.1
      have sy : isScr y = false := by simpa using hscr.2
      split at h
      · split at h
        · rename_i xs ys e1 e2
          obtain ⟨a, vs, rfl, r1, h1⟩ := L.lst hx e1 sx
          obtain ⟨b, us, rfl, r2, h2⟩ := L.lst hy e2 sy
          refine op_catL pins s σ H _ _ v u Q I rx ry ⟨a, b, vs, us, rfl, rfl, h1, h2, ?_, fun p hp => ?_⟩
          · obtain ⟨hl, _⟩ := L.mkL (p := s.heap.objs.size) I.fresh (r1.append r2) h
            rw [List.length_append] at hl
            exact hl
          · obtain ⟨_, w, S', μ', R', q, g, L', rw'⟩ := L.mkL hp (r1.append r2) h
            exact q μ' _ R' _ g L' rw'
        · rename_i xs ys e1 e2
          obtain ⟨a, vs, rfl, r1, h1⟩ := L.seq hx e1
          obtain ⟨b, us, rfl, r2, h2⟩ := L.seq hy e2
          have h1 := h1.resolve_left fun z => nomatch z.1
          have h2 := h2.resolve_left fun z => nomatch z.1
          split at h
          · rename_i hl
            rw [r1.length, r2.length] at hl
            refine op_catA pins s σ H _ _ v u Q I rx ry ⟨a, b, vs, us, rfl, rfl, h1.2, h2.2, hl, fun e => ?_, fun n1 e => ?_, fun n1 n2 p hp => ?_⟩
            · subst e
              cases r1
              exact grow0 h L hy
            · subst e
              cases r2
              cases r1 with
              | nil => exact absurd rfl n1
              | cons _ _ => exact grow0 h L hx
            · cases r1 with
              | nil => exact absurd rfl n1
              | cons c1 c2 =>
                cases r2 with
                | nil => exact absurd rfl n2
                | cons d1 d2 =>
                  obtain ⟨L1, g⟩ := L.newD (h := .tup _) hp
                  exact h μ _ _ _ g L1 (mkTup_rv upd_same (((RVs.cons c1 c2).append (.cons d1 d2)).mono g))
          · exact False.elim h
        · exact False.elim h
      · split at h
        · rename_i xs k e1 z1 z2
          obtain ⟨a, vs, rfl, r1, h1⟩ := L.lst hx e1 sx
          have ey := hy.int
          subst ey
          split at h
          · rename_i hk
            obtain ⟨k1, k2, k3⟩ := hk
            rw [r1.length] at k3
            refine op_repL pins s σ H _ _ v u Q I rx ry ⟨a, k, vs, rfl, rfl, h1, k1, k2, k3, fun p hp => ?_⟩
            obtain ⟨_, w, S', μ', R', q, g, L', rw'⟩ := L.mkL hp (r1.replicate k.toNat) h
            exact q μ' _ R' _ g L' rw'
          · exact False.elim h
        · exact False.elim h
      · exact False.elim h
end
end Py

/-! Ops2: comparisons, dicts' looks, subscripts, truth. -/
namespace Py
open PySem PySem.Spec PyProof.Rows L2
open Evl (Ex ex_l ex_t ex_rd fresh_back)

/-! ### dicts -/
inductive RO (K : KF) (μ : Nat → Addr) (n : Nat) (R : Hp) : Option W → Option V → Prop
  | none : RO K μ n R none none
  | some {w : W} {v : V} : RV K μ n R w v → RO K μ n R (some w) (some v)
section
variable {K : KF} {μ : Nat → Addr} {n : Nat} {R : Hp}
theorem RO.isSome {a : Option W} {b : Option V} (h : RO K μ n R a b) : a.isSome = b.isSome := by cases h <;> rfl
theorem RO.getD {a : Option W} {b : Option V} (h : RO K μ n R a b) {w : W} {v : V} (r : RV K μ n R w v) : RV K μ n R (a.getD w) (b.getD v) := by
  cases h with
  | none => exact r
  | some q => exact q
section
variable {κ : Type} [DecidableEq κ]
theorem valA_nil {α : Type} {k : κ} : valA ([] : List (κ × α)) k = none := rfl
theorem valA_pos {α : Type} {p : κ × α} {r : List (κ × α)} {k : κ} (e : p.1 = k) : valA (p :: r) k = some p.2 := by simp [valA, List.find?_cons, e]
theorem valA_neg {α : Type} {p : κ × α} {r : List (κ × α)} {k : κ} (e : ¬ p.1 = k) : valA (p :: r) k = valA r k := by simp [valA, List.find?_cons, e]
theorem RKs.val : ∀ {kvs : List (κ × W)} {hvs : List (κ × V)}, RKs K μ n R kvs hvs → ∀ k : κ, RO K μ n R (valA kvs k) (valV hvs k)
  | _, _, .nil, _ => .none
  | _, _, .cons (a := p) (b := q) r t, k => by
    by_cases e : p.1 = k
    · rw [valA_pos e, valV_pos (r.1.symm.trans e)]
      exact .some r.2
    · rw [valA_neg e, valV_neg fun z => e (r.1.trans z)]
      exact RKs.val t k
theorem RKs.len : ∀ {kvs : List (κ × W)} {hvs : List (κ × V)}, RKs K μ n R kvs hvs → kvs.length = hvs.length
  | _, _, .nil => rfl
  | _, _, .cons _ t => congrArg Nat.succ (RKs.len t)
theorem RKs.repl {k : κ} {w : W} {v : V} (r : RV K μ n R w v) : ∀ {kvs : List (κ × W)} {hvs : List (κ × V)}, RKs K μ n R kvs hvs →
    RKs K μ n R (kvs.map fun kv => if kv.1 = k then (kv.1, w) else kv) (hvs.map fun kv => if kv.1 = k then (kv.1, v) else kv)
  | _, _, .nil => .nil
  | _, _, .cons (a := p) (b := q) h t => by
    refine .cons ?_ (RKs.repl r t)
    dsimp only
    by_cases e : p.1 = k
    · rw [if_pos e, if_pos (h.1.symm.trans e)]
      exact ⟨h.1, r⟩
    · rw [if_neg e, if_neg fun z => e (h.1.trans z)]
      exact h
theorem RKs.snoc {k : κ} {w : W} {v : V} (r : RV K μ n R w v) : ∀ {kvs : List (κ × W)} {hvs : List (κ × V)}, RKs K μ n R kvs hvs → RKs K μ n R (kvs ++ [(k, w)]) (hvs ++ [(k, v)])
  | _, _, .nil => .cons ⟨rfl, r⟩ .nil
  | _, _, .cons h t => .cons h (RKs.snoc r t)
theorem RKs.put {k : κ} {w : W} {v : V} (r : RV K μ n R w v) {kvs : List (κ × W)} {hvs : List (κ × V)} (h : RKs K μ n R kvs hvs) : RKs K μ n R (putA kvs k w) (putK hvs k v) := by
  have e : (valA kvs k).isSome = (valV hvs k).isSome := (h.val k).isSome
  unfold putA
  by_cases hs : (valA kvs k).isSome = true
  · rw [if_pos hs]
    have e2 : putK hvs k v = hvs.map fun kv => if kv.1 = k then (kv.1, v) else kv := by
      unfold putK
      rw [valV_any, ← e, hs]
      rfl
    rw [e2]
    exact h.repl r
  · rw [if_neg hs]
    have e2 : putK hvs k v = hvs ++ [(k, v)] := putK_new v (by
      have : (valV hvs k).isSome = false := by rw [← e]; simpa using hs
      cases q : valV hvs k with
      | none => rfl
      | some _ => rw [q] at this; cases this)
    rw [e2]
    exact h.snoc r
theorem RKs.drop {k : κ} : ∀ {kvs : List (κ × W)} {hvs : List (κ × V)}, RKs K μ n R kvs hvs → RKs K μ n R (dropA kvs k) (dropK hvs k)
  | _, _, .nil => .nil
  | _, _, .cons (a := p) (b := q) h t => by
    have ih := RKs.drop (k := k) t
    unfold dropA dropK at *
    by_cases e : p.1 = k
    · rw [List.filter_cons, if_neg (by simp [e]), List.filter_cons, if_neg (by simp [h.1.symm.trans e])]
      exact ih
    · have e' : ¬ q.1 = k := fun z => e (h.1.trans z)
      rw [List.filter_cons, if_pos (by simp [e]), List.filter_cons, if_pos (by simp [e'])]
      exact .cons h ih
end
theorem keyD_kV {x : PyData} {v : V} {k : Key} (h : DV K R v x) (e : keyD x = some k) : v = kV k := by
  cases h with
  | int i => cases e; rfl
  | str x => cases e; rfl
  | _ => cases e
theorem keysD_kV : ∀ {xs : List PyData} {vs : List V} {ks : List Key}, DVs K R vs xs → keysD xs = some ks → vs = ks.map kV
  | [], _, ks, .nil, e => by
    unfold keysD at e
    cases e
    rfl
  | x :: r, _, ks, .cons h hs, e => by
    unfold keysD at e
    split at e
    · rename_i k ks' e1 e2
      cases e
      rw [keyD_kV h e1, keysD_kV hs e2]
      rfl
    · cases e
theorem keyW_kV {w : W} {v : V} {k : Key} (h : RV K μ n R w v) (e : keyW w = some k) : v = kV k := by
  cases h with
  | d h => exact keyD_kV h e
  | _ => cases e
theorem keyT_kV {w : W} {v : V} {k : List Key} (h : RV K μ n R w v) (e : keyT w = some k) : ∃ b, v = .ref b ∧ R b = some (.tup (k.map kV)) := by
  cases h with
  | d h =>
    cases h with
    | tup h hs =>
      have e : (if _ then _ else _) = some k := e
      split at e
      · rw [← keysD_kV hs e]
        exact ⟨_, rfl, h⟩
      · cases e
    | ktup h h3 hs =>
      have e : (if _ then _ else _) = some k := e
      split at e
      · rename_i h2
        omega
      · cases e
    | _ => cases e
  | _ => cases e
end
section
variable {K : KF} {ca : CF} {S : St} {μ : Nat → Addr} {H R : Hp}
theorem Lay.dget (L : Lay K ca S μ H R) {i : Nat} {k : W} {v : V} {o : Option W} (r : RV K μ S.n R k v) (e : dGet S i k = some o) : ∃ q, DGet H (μ i) v q ∧ RO K μ S.n R o q := by
  unfold dGet at e
  split at e
  · rename_i kvs e'
    obtain ⟨key, e1, e2⟩ := Option.map_eq_some_iff.mp e
    obtain ⟨h, e3, q⟩ := L.hol i _ e'
    cases q with
    | dK q =>
      subst e2
      rw [keyW_kV r e1]
      exact ⟨_, .k e3, q.val key⟩
  · rename_i kvs e'
    obtain ⟨key, e1, e2⟩ := Option.map_eq_some_iff.mp e
    obtain ⟨h, e3, q⟩ := L.hol i _ e'
    cases q with
    | fK q =>
      subst e2
      rw [keyW_kV r e1]
      exact ⟨_, .inl ⟨_, key, .inr ⟨_, e3⟩, rfl, rfl⟩, q.val key⟩
  · rename_i kvs e'
    obtain ⟨key, e1, e2⟩ := Option.map_eq_some_iff.mp e
    obtain ⟨h, e3, q⟩ := L.hol i _ e'
    obtain ⟨b, rfl, hb⟩ := keyT_kV r e1
    cases q with
    | dT q =>
      subst e2
      exact ⟨_, .t e3 (L.sub _ _ hb), q.val key⟩
  · rename_i kvs e'
    obtain ⟨key, e1, e2⟩ := Option.map_eq_some_iff.mp e
    obtain ⟨h, e3, q⟩ := L.hol i _ e'
    obtain ⟨b, rfl, hb⟩ := keyT_kV r e1
    cases q with
    | fT q =>
      subst e2
      exact ⟨_, .inr ⟨_, key, b, .inr ⟨_, e3⟩, rfl, L.sub _ _ hb, rfl⟩, q.val key⟩
  · cases e
theorem Lay.dput (L : Lay K ca S μ H R) {i : Nat} {k w : W} {v y : V} {S' : St} (r : RV K μ S.n R k v) (rw' : RV K μ S.n R w y) (e : dPut S i k w = some S') :
    ∃ H', DPut H (μ i) v y H' ∧ Lay K ca S' μ H' R ∧ S'.n = S.n := by
  unfold dPut at e
  split at e
  · rename_i kvs e'
    split at e
    · rename_i hl
      obtain ⟨key, e1, e2⟩ := Option.map_eq_some_iff.mp e
      obtain ⟨h, e3, q⟩ := L.hol i _ e'
      cases q with
      | dK q =>
        subst e2
        rw [keyW_kV r e1]
        rw [q.len] at hl
        exact ⟨_, .k e3 hl, L.put e' (.dK (q.put rw')), rfl⟩
    · cases e
  · rename_i kvs e'
    split at e
    · rename_i hl
      obtain ⟨key, e1, e2⟩ := Option.map_eq_some_iff.mp e
      obtain ⟨h, e3, q⟩ := L.hol i _ e'
      obtain ⟨b, rfl, hb⟩ := keyT_kV r e1
      cases q with
      | dT q =>
        subst e2
        rw [q.len] at hl
        exact ⟨_, .t e3 (L.sub _ _ hb) hl, L.put e' (.dT (q.put rw')), rfl⟩
    · cases e
  · cases e

/-! ### == and in over data -/
theorem scal2_ok {x y : V} {a b : PyData} (hx : Dp K H x a) (hy : Dp K H y b) (h : scal2 a b = true) : scal x y = true ∧ decide (x = y) = PyData.eqv a b := by
  cases hx <;> cases hy <;> first
    | exact absurd h (by decide)
    | exact ⟨rfl, by rw [dec_int]; rfl⟩
    | exact ⟨rfl, by rw [dec_bl]; rfl⟩
    | exact ⟨rfl, by rw [dec_str]; rfl⟩
    | exact ⟨rfl, decide_eq_true rfl⟩
    | exact ⟨rfl, decide_eq_false fun z => nomatch z⟩
    | (simp [scal2] at h)
theorem flat_ok {x y : V} {a b : PyData} (hx : Dp K H x a) (hy : Dp K H y b) (h1 : scalD a = true) (h2 : scalD b = true) : flatV x = true ∧ eqV x y = PyData.eqv a b := by
  cases hx <;> cases hy <;> first
    | exact ⟨rfl, rfl⟩
    | (simp [scalD] at h1)
    | (simp [scalD] at h2)
theorem flat_all {x : V} {a : PyData} (hx : Dp K H x a) (h1 : scalD a = true) : ∀ {vs : List V} {ds : List PyData}, DpAll K H vs ds → ds.all scalD = true → vs.all flatV = true ∧ inV x vs = ds.any fun d => PyData.eqv d a
  | _, _, .nil, _ => ⟨rfl, rfl⟩
  | _, _, .cons h t, e => by
    rw [List.all_cons, Bool.and_eq_true] at e
    obtain ⟨i1, i2⟩ := flat_all hx h1 t e.2
    obtain ⟨j1, j2⟩ := flat_ok h hx e.1 h1
    refine ⟨by rw [List.all_cons, j1, i1]; rfl, ?_⟩
    unfold inV at i2 ⊢
    rw [List.any_cons, List.any_cons, i2, j2]
end
section
variable {X : Cx} {ca : CF}
theorem all2_at {K : KF} {F : W → W → Bool} {μ : Nat → Addr} {n : Nat} {R : Hp} {s : Shared} {A : Around} (f : ∀ (x y : W) (vx vy : V) (v u : Value), F x y = true → RV K μ n R x vx → RV K μ n R y vy → RelV vx v → RelV vy u → SeqAt.EqAt A s v u true) :
    ∀ {xs ys : List W} {vs us : List V} {is js : List Value}, all2 F xs ys = true → RVs K μ n R xs vs → RVs K μ n R ys us → Vals vs is → Vals us js → is.length = js.length ∧ ∀ j (h1 : j < is.length) (h2 : j < js.length), SeqAt.EqAt A s is[j] js[j] true
  | [], [], _, _, _, _, _, .nil, .nil, .nil, .nil => ⟨rfl, fun j h1 => absurd h1 (Nat.not_lt_zero j)⟩
  | [], _ :: _, _, _, _, _, e, _, _, _, _ => by cases e
  | _ :: _, [], _, _, _, _, e, _, _, _, _ => by cases e
  | x :: xs, y :: ys, _, _, _, _, e, .cons a1 b1, .cons a2 b2, .cons r1 t1, .cons r2 t2 => by
    have e : (F x y && all2 F xs ys) = true := e
    rw [Bool.and_eq_true] at e
    obtain ⟨hl, ih⟩ := all2_at f e.2 b1 b2 t1 t2
    refine ⟨congrArg Nat.succ hl, fun j h1 h2 => ?_⟩
    cases j with
    | zero => exact f x y _ _ _ _ e.1 a1 a2 r1 r2
    | succ j => exact ih j (Nat.lt_of_succ_lt_succ h1) (Nat.lt_of_succ_lt_succ h2)
theorem eqW_ok {X : Cx} {ca : CF} {pins : List (Addr × Obj)} {s : Shared} {σ : L2.St} {H R : Hp} {S : St} {μ : Nat → Addr} (I : Inv X pins σ H s) (L : Lay X.K ca S μ H R) : ∀ (k : Nat) (A : Around), A.units + k + 66 < cLine → ∀ (x y : W) (vx vy : V) (v u : Value), eqW k x y = true → RV X.K μ S.n R x vx → RV X.K μ S.n R y vy → RelV vx v → RelV vy u → SeqAt.EqAt A s v u true
  | k, A, hu, x, y, vx, vy, v, u, e, hx, hy, rx, ry => by
    cases hx with
    | ref hi =>
      cases hy with
      | ref hj =>
        rename_i i j
        have e : (i == j) = true := by cases k <;> exact e
        rw [beq_iff_eq] at e
        subst e
        cases (show v = Value.ref (μ i) from rx)
        cases (show u = Value.ref (μ i) from ry)
        exact SeqAt.EqAt.same _
      | _ => cases k <;> cases e
    | d hx =>
      cases hy with
      | d hy =>
        rename_i p q
        have e : (SeqAt.shaped p && SeqAt.shaped q && PyData.eqv p q) = true := by cases k <;> exact e
        simp only [Bool.and_eq_true] at e
        obtain ⟨as, r1⟩ := Dp.reads I p vx v (hx.mono L.sub).dp rx
        obtain ⟨bs, r2⟩ := Dp.reads I q vy u (hy.mono L.sub).dp ry
        have z := SeqAt.eqAt_reads p q A s v u as bs r1 r2 (SeqAt.canLay_of_shaped e.1.1) (SeqAt.canLay_of_shaped e.1.2) (SeqAt.room_of_shaped e.1.1 (by omega))
        rw [e.2] at z
        exact z
      | _ => cases k <;> cases e
    | scr _ => cases k <;> cases y <;> cases e
    | tup hx hxs =>
      cases hy with
      | tup hy hys =>
        rename_i a xs vs b ys us
        cases k with
        | zero => cases e
        | succ k =>
          have e : all2 (eqW k) xs ys = true := e
          cases (show v = Value.ref a from rx)
          cases (show u = Value.ref b from ry)
          by_cases hab : a = b
          · subst hab
            exact SeqAt.EqAt.same _
          · obtain ⟨is, v1, t1, _⟩ := I.tuple (st_of (L.sub _ _ hx))
            obtain ⟨js, v2, t2, _⟩ := I.tuple (st_of (L.sub _ _ hy))
            obtain ⟨hl, q⟩ := all2_at (A := A.in1) (eqW_ok I L k A.in1 (by show A.units + 1 + k + 66 < cLine; omega)) e hxs hys v1 v2
            refine SeqAt.EqAt.of_refs hab ?_
            have z := SeqAt.RcAt.tuples (A := A) (e := fun _ => true) t1 t2 (by omega) (fun j h1 h2 => by simpa using q j (by simpa using h1) (by simpa using h2))
            have e2 : ((List.range (min is.toArray.size js.toArray.size)).all (fun _ => true) && is.toArray.size == js.toArray.size) = true := by
              simp [hl]
            rw [e2] at z
            exact z
      | _ => cases k <;> cases e
theorem paired_keys {κ α β : Type} {F : κ × α → κ × β → Prop} (f : ∀ p q, F p q → p.1 = q.1) : ∀ {a : List (κ × α)} {b : List (κ × β)}, Paired F a b → a.map (·.1) = b.map (·.1)
  | _, _, .nil => rfl
  | _, _, .cons r t => by rw [List.map_cons, List.map_cons, f _ _ r, paired_keys f t]
theorem hits_self {κ : Type} [DecidableEq κ] {A : Around} {s : Shared} {l : List (κ × Value)} (nd : (l.map (·.1)).Nodup) : ∀ {m : List (κ × Value)}, (∀ k v, (k, v) ∈ m → (k, v) ∈ l) → PySem.W.KeqHits A s l m true
  | [], _ => .nil
  | (k, v) :: r, h => by
    obtain ⟨i, hi, e⟩ := List.mem_iff_getElem.mp (h k v List.mem_cons_self)
    exact .hit (valueAt_of_get nd (by rw [List.getElem?_eq_getElem hi, e])) (SeqAt.EqAt.same v) (hits_self nd fun k v hm => h k v (List.mem_cons_of_mem _ hm))
theorem isBB_ok {K : KF} {μ : Nat → Addr} {n : Nat} {R : Hp} {x y : W} {vx vy : V} {b : Bool} (hx : RV K μ n R x vx) (hy : RV K μ n R y vy) (e : isBB x y = some b) : ∃ a1 a2, vx = .bl a1 ∧ vy = .bl a2 ∧ b = decide (a1 = a2) := by
  unfold isBB at e
  split at e
  · rename_i a1 a2
    cases e
    refine ⟨a1, a2, ?_, ?_, rfl⟩
    · cases hx with
      | d q => cases q; rfl
    · cases hy with
      | d q => cases q; rfl
  · cases e
theorem topEq_ok {X : Cx} {ca : CF} {pins : List (Addr × Obj)} {s : Shared} {σ : L2.St} {H R : Hp} {S : St} {μ : Nat → Addr} (hu : X.A.units + 128 < cLine) (I : Inv X pins σ H s) (L : Lay X.K ca S μ H R) {x y : W} {vx vy : V} {v u : Value} (e : topEq S x y = true) (hx : RV X.K μ S.n R x vx) (hy : RV X.K μ S.n R y vy) (rx : RelV vx v) (ry : RelV vy u)
    {E : Value → Shared → Prop} {Q : Value → Shared → Prop} : (Q (.bool true) s → wpAny (model X.prog X.w) X.A (compareOp .Eq v u) Q E s) ∧ (Q (.bool false) s → wpAny (model X.prog X.w) X.A (compareOp .NotEq v u) Q E s) := by
  unfold topEq at e
  split at e
  · rename_i i j
    obtain ⟨rfl, _⟩ := hx.rf
    obtain ⟨rfl, _⟩ := hy.rf
    cases (show v = Value.ref (μ i) from rx)
    cases (show u = Value.ref (μ j) from ry)
    split at e
    · rename_i xs ys e1 e2
      obtain ⟨h1, f1, q1⟩ := L.hol i _ e1
      obtain ⟨h2, f2, q2⟩ := L.hol j _ e2
      cases q1 with
      | lst r1 =>
        cases q2 with
        | lst r2 =>
          obtain ⟨is, v1, p1, _⟩ := I.list (.inl (.inl f1))
          obtain ⟨js, v2, p2, _⟩ := I.list (.inl (.inl f2))
          obtain ⟨hl, q⟩ := all2_at (A := X.A.in1) (eqW_ok I L 8 X.A.in1 (by show X.A.units + 1 + 8 + 66 < cLine; omega)) e r1 r2 v1 v2
          have ee : (List.range is.toArray.size).all (fun _ => true) = true := List.all_eq_true.mpr fun _ _ => rfl
          refine ⟨fun hq => ?_, fun hq => ?_⟩
          · have z := SeqAt.RcAt.lists (A := X.A) (e := fun _ => true) p1.isList p2.isList (by simp [hl]) (by omega) (fun j h1 h2 => by simpa using q j (by simpa using h1) (by simpa using h2))
            rw [ee] at z
            exact z X.prog X.w E Q hq
          · have z := SeqAt.RcNeAt.lists (A := X.A) (e := fun _ => true) p1.isList p2.isList (by simp [hl]) (by omega) (fun j h1 h2 => by simpa using q j (by simpa using h1) (by simpa using h2))
            rw [ee] at z
            exact z X.prog X.w E Q hq
    · rename_i ks ls e1 e2
      rw [Bool.and_eq_true, beq_iff_eq, decide_eq_true_eq] at e
      obtain ⟨e, nd⟩ := e
      subst e
      obtain ⟨h1, f1, q1⟩ := L.hol i _ e1
      cases q1 with
      | dK r1 =>
        obtain ⟨_, ya, va, ra, da⟩ := (show ObjOk X.prog X.w H s.heap (μ i) (.dK _) from I.hok _ _ f1)
        have k1 := paired_keys (fun _ _ z => z.1) r1
        have k2 := paired_keys (fun _ _ z => z.1) ra
        rw [k1, k2] at nd
        have hits : PySem.W.KeqHits X.A.in1 s va va true := hits_self nd (fun _ _ h => h)
        refine ⟨fun hq => ?_, fun hq => ?_⟩
        · exact PySem.W.keq_eq (knd := mixKind X.prog X.w) ya ya da da (by omega) (fun _ => hits) (by simpa using hq)
        · exact PySem.W.keq_ne (knd := mixKind X.prog X.w) ya ya da da (by omega) (fun _ => hits) (by simpa using hq)
    · cases e
  · cases e
theorem tup0_ok {X : Cx} {ca : CF} {pins : List (Addr × Obj)} {s : Shared} {σ : L2.St} {H R : Hp} {S : St} {μ : Nat → Addr} (hu : X.A.units + 128 < cLine) (I : Inv X pins σ H s) (L : Lay X.K ca S μ H R) {x y : W} {vx vy : V} {v u : Value} (e : tup0 x y = true) (hx : RV X.K μ S.n R x vx) (hy : RV X.K μ S.n R y vy) (rx : RelV vx v) (ry : RelV vy u)
    {E : Value → Shared → Prop} {Q : Value → Shared → Prop} : (Q (.bool false) s → wpAny (model X.prog X.w) X.A (compareOp .Eq v u) Q E s) ∧ (Q (.bool true) s → wpAny (model X.prog X.w) X.A (compareOp .NotEq v u) Q E s) := by
  unfold tup0 at e
  split at e
  · rename_i w0 ws
    cases hx with
    | tup h1 hs =>
      rename_i a vs
      cases (show v = Value.ref a from rx)
      obtain ⟨is, v1, t1, _⟩ := I.tuple (st_of (L.sub _ _ h1))
      have l1 : 0 < is.length := by
        rw [← v1.length, ← hs.length]
        exact Nat.succ_pos _
      have key : ∃ b js, u = Value.ref b ∧ Vals [] js ∧ IsTup s.heap b js.toArray := by
        cases hy with
        | d q =>
          cases q with
          | tup h2 q2 =>
            cases q2
            obtain ⟨js, v2, t2, _⟩ := I.tuple (st_of (L.sub _ _ h2))
            exact ⟨_, js, ry, v2, t2⟩
          | ktup h2 h3 q2 => simp at h3
      obtain ⟨b, js, rfl, v2, t2⟩ := key
      cases v2
      have e2 : ((List.range (min is.toArray.size (#[] : Array Value).size)).all (fun _ => true) && is.toArray.size == (#[] : Array Value).size) = false := by
        have : ¬ is.length = 0 := by omega
        simp [this]
      refine ⟨fun hq => ?_, fun hq => ?_⟩
      · have z := SeqAt.RcAt.tuples (A := X.A) (e := fun _ => true) t1 t2 (by omega) (fun j h1 h2 => absurd h2 (Nat.not_lt_zero j))
        rw [e2] at z
        exact z X.prog X.w E Q hq
      · have z := SeqAt.RcNeAt.tuples (A := X.A) (e := fun _ => true) t1 t2 (by omega) (fun j h1 h2 => absurd h2 (Nat.not_lt_zero j))
        rw [e2] at z
        exact z X.prog X.w E Q hq
  · cases e
theorem ops_cmp (hu : X.A.units + 128 < cLine) (op : C) : OpS X ca (compareOp (cop op)) (cmpM op) := by
  intro pins s σ H v u S μ R x y vx vy Q E' I rx ry L hx hy h
  have hu64 : X.A.units + 64 < cLine := by omega
  have hu1 : X.A.units + 1 < cLine := by omega
  have fin : ∀ {b : Bool}, PQ X.K ca μ S.n R Q (.d (.bool b)) S → Q (.bl b) H := fun q => grow0 q L (.d (.bl _))
  have hEq : ∀ {b : Bool}, eqM0 S x y = some b → ∃ p q, Dp X.K H vx p ∧ Dp X.K H vy q ∧ ((scal2 p q = true) ∨ (SeqAt.shaped p = true ∧ SeqAt.shaped q = true)) ∧ b = PyData.eqv p q := fun {b} e => by
    unfold eqM0 at e
    split at e
    · rename_i p q e1 e2
      split at e
      · rename_i hc
        cases e
        rw [Bool.or_eq_true, Bool.and_eq_true] at hc
        exact ⟨p, q, L.toD 8 _ _ _ hx e1, L.toD 8 _ _ _ hy e2, hc, rfl⟩
      · cases e
    · cases e
  have hSeq : ∀ {b : Bool}, inSeq S x y = some b → (∃ p vs a, vy = .ref p ∧ (SqL X.K H p vs ∨ SqT X.K H p vs) ∧ flatV vx = true ∧ vs.all flatV = true ∧ b = inV vx vs) ∨
      ∃ d ds, Dp X.K H vx d ∧ Dp X.K H vy (.list ds) ∧ SeqAt.shaped d = true ∧ SeqAt.shaped (.list ds) = true ∧ b = ds.any fun z => PyData.eqv z d := fun {b} e => by
    unfold inSeq at e
    split at e
    · rename_i d ds e1 e2
      have dx := L.toD 8 _ _ _ hx e1
      have dy := L.toD 8 _ _ _ hy e2
      split at e
      · rename_i hc
        cases e
        rw [Bool.or_eq_true, Bool.and_eq_true, Bool.and_eq_true] at hc
        rcases hc with ⟨c1, c2⟩ | ⟨c1, c2⟩
        · cases dy with
          | lst hl ha =>
            obtain ⟨f1, f2⟩ := flat_all dx c1 ha c2
            exact .inl ⟨_, _, d, rfl, .inl hl, (flat_ok dx dx c1 c1).1, f1, f2.symm⟩
        · exact .inr ⟨d, ds, dx, dy, c1, c2, rfl⟩
      · cases e
    · rename_i d ds e1 e2
      have dx := L.toD 8 _ _ _ hx e1
      have dy := L.toD 8 _ _ _ hy e2
      split at e
      · rename_i hc
        cases e
        rw [Bool.and_eq_true] at hc
        obtain ⟨c1, c2⟩ := hc
        cases dy with
        | tup hl ha =>
          obtain ⟨f1, f2⟩ := flat_all dx c1 ha c2
          exact .inl ⟨_, _, d, rfl, .inr hl, (flat_ok dx dx c1 c1).1, f1, f2.symm⟩
      · cases e
    · cases e
  have hIn : ∀ {b : Bool}, inM S x y = some b → inSeq S x y = some b ∨ (∃ i o, y = .ref i ∧ dGet S i x = some o ∧ b = o.isSome) ∨ ∃ c z, vx = .str ⟨#[c]⟩ ∧ vy = .str z ∧ b = decide (c ∈ z.cps.toList) := fun {b} e => by
    unfold inM at e
    split at e
    · rename_i i
      split at e
      · exact .inl e
      · obtain ⟨o, e1, e2⟩ := Option.map_eq_some_iff.mp e
        exact .inr (.inl ⟨i, o, rfl, e1, e2.symm⟩)
    · rename_i z
      split at e
      · rename_i a
        split at e
        · rename_i c ec
          cases e
          have ea : a = ⟨#[c]⟩ := by
            cases a with
            | mk cps => rw [← Array.toList_inj.mp (show cps.toList = (#[c] : Array Nat).toList from ec)]
          refine .inr (.inr ⟨c, z, ?_, hy.str, rfl⟩)
          rw [← ea]
          exact hx.str
        · cases e
      · cases e
    · exact .inl e
  cases op with
  | eq =>
    obtain ⟨b, e, q⟩ := okB_post h
    unfold eqM at e
    split at e
    · rename_i b' e'
      cases e
      obtain ⟨p, d, hp, hd, hc, rfl⟩ := hEq e'
      rcases hc with hc | hc
      · obtain ⟨c1, c2⟩ := scal2_ok hp hd hc
        exact op_eq pins s σ H _ _ v u Q I rx ry ⟨c1, by rw [c2]; exact fin q⟩
      · exact op_eqD hu64 pins s σ H _ _ v u Q I rx ry ⟨p, d, hp, hd, hc.1, hc.2, fin q⟩
    · split at e
      · rename_i ht
        cases e
        exact (topEq_ok hu I L ht hx hy rx ry).1 ⟨.bl true, H, I, rfl, fin q⟩
      · split at e
        · rename_i h0
          cases e
          exact (tup0_ok hu I L h0 hx hy rx ry).1 ⟨.bl false, H, I, rfl, fin q⟩
        · cases e
  | ne =>
    obtain ⟨b, e, q⟩ := okB_post h
    obtain ⟨b', e', rfl⟩ := Option.map_eq_some_iff.mp e
    unfold eqM at e'
    split at e'
    · rename_i b2 e2
      cases e'
      obtain ⟨p, d, hp, hd, hc, rfl⟩ := hEq e2
      rcases hc with hc | hc
      · obtain ⟨c1, c2⟩ := scal2_ok hp hd hc
        exact op_ne pins s σ H _ _ v u Q I rx ry ⟨c1, by rw [c2]; exact fin q⟩
      · exact op_neD hu64 pins s σ H _ _ v u Q I rx ry ⟨p, d, hp, hd, hc.1, hc.2, fin q⟩
    · split at e'
      · rename_i ht
        cases e'
        exact (topEq_ok hu I L ht hx hy rx ry).2 ⟨.bl false, H, I, rfl, fin q⟩
      · split at e'
        · rename_i h0
          cases e'
          exact (tup0_ok hu I L h0 hx hy rx ry).2 ⟨.bl true, H, I, rfl, fin q⟩
        · cases e'
  | lt =>
    have h : (match x, y with
      | .d (.int i), .d (.int j) => Res.ok (W.d (.bool (decide (i < j)))) S
      | .d (.str a), .d (.str b) => .ok (.d (.bool (decide (a.cps.toList < b.cps.toList)))) S
      | _, _ => .fail).post (PQ X.K ca μ S.n R Q) E' := h
    split at h
    · have ex := hx.int
      have ey := hy.int
      subst ex ey
      exact op_lt pins s σ H _ _ v u Q I rx ry ⟨_, _, rfl, rfl, fin h⟩
    · have ex := hx.str
      have ey := hy.str
      subst ex ey
      exact op_lt_str pins s σ H _ _ v u Q I rx ry ⟨_, _, rfl, rfl, fin h⟩
    · exact False.elim h
  | le =>
    have h : (match x, y with
      | .d (.int i), .d (.int j) => Res.ok (W.d (.bool (decide (i ≤ j)))) S
      | _, _ => .fail).post (PQ X.K ca μ S.n R Q) E' := h
    split at h
    · have ex := hx.int
      have ey := hy.int
      subst ex ey
      exact op_le pins s σ H _ _ v u Q I rx ry ⟨_, _, rfl, rfl, fin h⟩
    · exact False.elim h
  | gt =>
    have h : (match x, y with
      | .d (.int i), .d (.int j) => Res.ok (W.d (.bool (decide (j < i)))) S
      | _, _ => .fail).post (PQ X.K ca μ S.n R Q) E' := h
    split at h
    · have ex := hx.int
      have ey := hy.int
      subst ex ey
      exact op_gt pins s σ H _ _ v u Q I rx ry ⟨_, _, rfl, rfl, fin h⟩
    · exact False.elim h
  | ge =>
    have h : (match x, y with
      | .d (.int i), .d (.int j) => Res.ok (W.d (.bool (decide (j ≤ i)))) S
      | _, _ => .fail).post (PQ X.K ca μ S.n R Q) E' := h
    split at h
    · have ex := hx.int
      have ey := hy.int
      subst ex ey
      exact op_ge pins s σ H _ _ v u Q I rx ry ⟨_, _, rfl, rfl, fin h⟩
    · exact False.elim h
  | in_ =>
    obtain ⟨b, e, q⟩ := okB_post h
    rcases hIn e with e | ⟨i, o, rfl, e9, rfl⟩ | ⟨c, z, rfl, rfl, rfl⟩
    · rcases hSeq e with ⟨p, vs, _, rfl, h1, h2, h3, rfl⟩ | ⟨d, ds, h1, h2, h3, h4, rfl⟩
      · exact op_in_seq pins s σ H _ _ v u Q I rx ry ⟨p, vs, rfl, h1, h2, h3, by rw [if_neg Bool.false_ne_true]; exact fin q⟩
      · exact op_inD (by omega) pins s σ H _ _ v u Q I rx ry ⟨d, ds, h1, h2, h3, h4, fin q⟩
    · obtain ⟨ey, _⟩ := hy.rf
      subst ey
      cases ry
      obtain ⟨r, g, ro⟩ := L.dget hx e9
      rw [ro.isSome] at q
      exact d_in hu1 I g rx fun s' I' => ⟨.bl r.isSome, H, I', rfl, fin q⟩
    · exact op_in_sign pins s σ H _ _ v u Q I rx ry ⟨c, z, rfl, rfl, fin q⟩
  | nin =>
    obtain ⟨b, e', q⟩ := okB_post h
    obtain ⟨b', e, rfl⟩ := Option.map_eq_some_iff.mp e'
    rcases hIn e with e | ⟨i, o, rfl, e9, rfl⟩ | ⟨c, z, rfl, rfl, rfl⟩
    · rcases hSeq e with ⟨p, vs, _, rfl, h1, h2, h3, rfl⟩ | ⟨d, ds, h1, h2, h3, h4, rfl⟩
      · exact op_notIn_seq pins s σ H _ _ v u Q I rx ry ⟨p, vs, rfl, h1, h2, h3, by rw [if_pos rfl]; exact fin q⟩
      · exact op_notInD (by omega) pins s σ H _ _ v u Q I rx ry ⟨d, ds, h1, h2, h3, h4, fin q⟩
    · obtain ⟨ey, _⟩ := hy.rf
      subst ey
      cases ry
      obtain ⟨r, g, ro⟩ := L.dget hx e9
      rw [ro.isSome] at q
      exact d_notIn hu1 I g rx fun s' I' => ⟨.bl (!r.isSome), H, I', rfl, fin q⟩
    · exact op_notIn_sign pins s σ H _ _ v u Q I rx ry ⟨c, z, rfl, rfl, fin q⟩
  | isN =>
    have h : (if isNone y then Res.ok (W.d (.bool (isNone x))) S else okB S (isBB x y)).post (PQ X.K ca μ S.n R Q) E' := h
    split at h
    · rename_i hn
      have ey : vy = .non := by
        cases hy with
        | d q => cases q <;> first | rfl | cases hn
        | _ => cases hn
      subst ey
      have ex : isNone x = decide (vx = .non) := by
        cases hx with
        | d q => cases q <;> first | rfl | exact (decide_eq_false fun z => nomatch z).symm
        | _ => exact (decide_eq_false fun z => nomatch z).symm
      rw [ex] at h
      exact op_isN pins s σ H _ _ v u Q I rx ry ⟨rfl, fin h⟩
    · obtain ⟨b, e, q⟩ := okB_post h
      obtain ⟨a1, a2, ex, ey, eb⟩ := isBB_ok hx hy e
      subst ex ey eb
      exact op_is_bl pins s σ H _ _ v u Q I rx ry ⟨a1, a2, rfl, rfl, fin q⟩
  | notN =>
    have h : (if isNone y then Res.ok (W.d (.bool (!isNone x))) S else okB S ((isBB x y).map (!·))).post (PQ X.K ca μ S.n R Q) E' := h
    split at h
    · rename_i hn
      have ey : vy = .non := by
        cases hy with
        | d q => cases q <;> first | rfl | cases hn
        | _ => cases hn
      subst ey
      have ex : isNone x = decide (vx = .non) := by
        cases hx with
        | d q => cases q <;> first | rfl | exact (decide_eq_false fun z => nomatch z).symm
        | _ => exact (decide_eq_false fun z => nomatch z).symm
      rw [ex] at h
      exact op_notN pins s σ H _ _ v u Q I rx ry ⟨rfl, fin h⟩
    · obtain ⟨b, e, q⟩ := okB_post h
      obtain ⟨b', e2, rfl⟩ := Option.map_eq_some_iff.mp e
      obtain ⟨a1, a2, ex, ey, eb⟩ := isBB_ok hx hy e2
      subst ex ey eb
      exact op_isnot_bl pins s σ H _ _ v u Q I rx ry ⟨a1, a2, rfl, rfl, fin q⟩
end
end Py

/-! Ops3: subscripts, slices, truth, fields, builtins, builtin methods. -/
namespace Py
open PySem PySem.Spec PyProof.Rows L2
open Evl (Ex ex_l ex_t ex_rd fresh_back)

theorem nat_chars : ∀ {l m : List Char}, l.map Char.toNat = m.map Char.toNat → l = m
  | [], [], _ => rfl
  | [], _ :: _, h => by cases h
  | _ :: _, [], h => by cases h
  | c :: r, d :: q, h => by
    rw [List.map_cons, List.map_cons] at h
    injection h with h1 h2
    rw [nat_chars h2]
    congr 1
    exact Char.ext (UInt32.toNat.inj h1)
theorem ofString_inj {f a : String} (z : Str.ofString f = Str.ofString a) : f = a := by
  rw [Str.ofString_eq_toList, Str.ofString_eq_toList] at z
  have z1 := congrArg (fun s : Str => s.cps.toList) z
  have z2 : f.toList.map Char.toNat = a.toList.map Char.toNat := by simpa using z1
  exact String.toList_inj.mp (nat_chars z2)
section
variable {K : KF} {μ : Nat → Addr} {n : Nat} {R : Hp}
theorem RVs.atA {ws : List W} {vs : List V} {i : Int} {w : W} (r : RVs K μ n R ws vs) (e : atA ws i = some w) : ∃ v, atI vs i = some v ∧ RV K μ n R w v := by
  unfold Py.atA at e
  obtain ⟨j, e1, e2⟩ := Option.bind_eq_some_iff.mp e
  obtain ⟨v, h1, h2⟩ := r.get e2
  refine ⟨v, ?_, h2⟩
  unfold atI
  rw [← r.length, e1]
  exact h1
theorem RVs.cut {ws : List W} {vs : List V} (r : RVs K μ n R ws vs) (lo hi : Option Int) : RVs K μ n R (cutA ws lo hi) (cutV vs lo hi) := by
  unfold cutA cutV
  rw [r.length]
  exact (r.drop _).take _
theorem RFs.look : ∀ {fs : List (String × W)} {hs : List (Str × V)} {f : String}, RFs K μ n R fs hs → RO K μ n R (fs.lookup f) (hs.lookup (Str.ofString f))
  | _, _, _, .nil => .none
  | _, _, f, .cons (a := p) (b := q) (l₁ := fs) (l₂ := hs) h t => by
    have ih := RFs.look (f := f) t
    obtain ⟨a, w⟩ := p
    obtain ⟨b, v⟩ := q
    obtain ⟨e, r⟩ := h
    have e : Str.ofString a = b := e
    subst e
    rw [List.lookup_cons, List.lookup_cons]
    by_cases hf : f = a
    · subst hf
      rw [beq_self_eq_true, beq_self_eq_true]
      exact .some r
    · have hf' : ¬ Str.ofString f = Str.ofString a := fun z => hf (ofString_inj z)
      rw [beq_eq_false_iff_ne.mpr hf, beq_eq_false_iff_ne.mpr hf']
      exact ih
end

section
variable {X : Cx} {ca : CF}
/-! ### subscripts -/
def IxS (X : Cx) (ca : CF) : Prop :=
  ∀ (value slice : Expr) (pins : List (Addr × Obj)) (s : Shared) (σ : L2.St) (H : Hp) (v u : Value) (S : St) (μ : Nat → Addr) (R : Hp) (x y : W) (vx vy : V) (Q : VK) (E' : String → St → Prop),
    Inv X pins σ H s → RelV vx v → RelV vy u → Lay X.K ca S μ H R → RV X.K μ S.n R x vx → RV X.K μ S.n R y vy → (ixM x y S).post (PQ X.K ca μ S.n R Q) E' →
    subscripted slice false v u = operate [v, u] (getItem v u) → wpAny (model X.prog X.w) X.A (subscriptTail value slice v u) (EP X pins σ Q) X.xe s
theorem ops_ix (hu : X.A.units + 128 < cLine) : IxS X ca := by
  intro value slice pins s σ H v u S μ R x y vx vy Q E' I rx ry L hx hy h hs
  have hu1 : X.A.units + 1 < cLine := by omega
  unfold ixM at h
  split at h
  · rename_i z i
    have ex := hx.str
    have ey := hy.int
    subst ex ey
    split at h
    · rename_i hl
      obtain ⟨w, e, q⟩ := okW_post h
      obtain ⟨c, e1, e2⟩ := Option.map_eq_some_iff.mp e
      subst e2
      exact ix_str value slice pins s σ H _ _ v u Q I rx ry ⟨z, i, c, rfl, rfl, hl, e1, grow0 q L (.d (.str _))⟩ hs
    · exact False.elim h
  · split at h
    · rename_i b xs i e1 z1
      have ey := hy.int
      subst ey
      obtain ⟨w, e, q⟩ := okW_post h
      obtain ⟨a, vs, rfl, r, h1⟩ := L.seq hx e1
      obtain ⟨z, hz, rz⟩ := r.atA e
      rcases h1 with ⟨_, h1⟩ | ⟨_, h1⟩
      · exact ix_list value slice pins s σ H _ _ v u Q I rx ry ⟨a, vs, i, z, rfl, rfl, h1, hz, grow0 q L rz⟩ hs
      · exact ix_tup value slice pins s σ H _ _ v u Q I rx ry ⟨a, vs, i, z, rfl, rfl, h1, hz, grow0 q L rz⟩ hs
    · exact False.elim h
    · split at h
      · rename_i a
        split at h
        · rename_i o e
          obtain ⟨w, e2, q⟩ := okW_post h
          subst e2
          obtain ⟨ex, _⟩ := hx.rf
          subst ex
          obtain ⟨r, g, ro⟩ := L.dget hy e
          cases ro with
          | some rw' =>
            rename_i vw
            cases rx
            exact tail_any (dict_typeIs I g) PySem.F.slot_dict_getitem.lookup (d_getItem hu1 I g ry fun w' s3 I3 rw2 => ⟨vw, H, I3, rw2, grow0 q L rw'⟩) hs
        · exact False.elim h
      · exact False.elim h
/-- a slice -/
def SlS (X : Cx) (ca : CF) (f : Bool) : Prop :=
  ∀ (pins : List (Addr × Obj)) (s : Shared) (σ : L2.St) (H : Hp) (v vl vu : Value) (lo hi : Option Int) (sl : Addr) (S : St) (μ : Nat → Addr) (R : Hp) (x : W) (vx : V) (Q : VK) (E' : String → St → Prop),
    Inv X pins σ H s → RelV vx v → Lay X.K ca S μ H R → RV X.K μ S.n R x vx → (slM f x lo hi S).post (PQ X.K ca μ S.n R Q) E' →
    s.heap.IsSliceOf sl vl vu .none → IsPart vl lo → IsPart vu hi →
    ∃ T id, typeLookup (.type T) "__getitem__" = pure (some (.builtin id)) ∧ s.TypeIs v T ∧ wpAny (model X.prog X.w) X.A (getItem v (.ref sl)) (EP X pins σ Q) X.xe s
theorem ops_sl (f : Bool) : SlS X ca f := by
  intro pins s σ H v vl vu lo hi sl S μ R x vx Q E' I rx L hx h hsl pl pu
  unfold slM at h
  split at h
  · rename_i z
    have ex := hx.str
    subst ex
    split at h
    · rename_i hl
      exact sl_str pins s σ H _ v vl vu lo hi sl Q I rx hsl pl pu ⟨z, rfl, hl, grow0 h L (.d (.str _))⟩
    · exact False.elim h
  · split at h
    · rename_i xs e1
      obtain ⟨a, vs, rfl, r, h1⟩ := L.seq hx e1
      have h1 := h1.resolve_right fun z => nomatch z.1
      refine sl_list pins s σ H _ v vl vu lo hi sl Q I rx hsl pl pu ⟨a, vs, rfl, h1.2, fun p hp => ?_⟩
      obtain ⟨_, w, S', μ', R', q, g, L', rw'⟩ := L.mkL hp (r.cut lo hi) h
      exact q μ' _ R' _ g L' rw'
    · rename_i xs e1
      obtain ⟨a, vs, rfl, r, h1⟩ := L.seq hx e1
      have h1 := h1.resolve_left fun z => nomatch z.1
      rw [r.length] at h
      refine sl_tupA pins s σ H _ v vl vu lo hi sl Q I rx hsl pl pu ⟨a, vs, rfl, h1.2, fun hc => ?_, fun hc p hp => ?_⟩
      · rw [if_pos hc] at h
        exact grow0 h L hx
      · rw [if_neg hc] at h
        obtain ⟨L1, g⟩ := L.newD (h := .tup (cutV vs lo hi)) hp
        exact h μ _ _ _ g L1 (mkTup_rv upd_same ((r.cut lo hi).mono g))
    · exact False.elim h
/-! ### truth -/
theorem ops_tru {K : KF} {S : St} {μ : Nat → Addr} {H R : Hp} (L : Lay K ca S μ H R) {x : W} {v : V} {b : Bool} (r : RV K μ S.n R x v) (e : truD S x = some b) : TruV K v H b := by
  have emp : ∀ {ws : List W} {vs : List V}, RVs K μ S.n R ws vs → (!ws.isEmpty) = !vs.isEmpty := fun r => by cases r <;> rfl
  have sq : ∀ {y : W}, RV K μ S.n R y v → (seqOf S y).map (fun p => !p.2.isEmpty) = some b → TruV K v H b := fun {y} r e => by
    obtain ⟨⟨k, ws⟩, e1, e2⟩ := Option.map_eq_some_iff.mp e
    obtain ⟨a, vs, rfl, r1, h1⟩ := L.seq r e1
    have e2 : (!ws.isEmpty) = b := e2
    rw [emp r1] at e2
    rcases h1 with ⟨_, h1⟩ | ⟨_, h1⟩
    · exact .inl ⟨vs, h1, e2.symm⟩
    · exact .inr (.inl ⟨vs, h1, e2.symm⟩)
  unfold truD at e
  split at e
  · cases e
    rw [r.non]
    exact rfl
  · cases e
    rw [r.bl]
    exact rfl
  · cases e
    rw [r.int]
    exact rfl
  · split at e
    · cases e
      rename_i z hl
      rw [r.str]
      refine ⟨hl, ?_⟩
      cases z.length <;> rfl
    · cases e
  · cases e
  · rename_i i
    split at e
    · cases e
      rename_i ws e'
      obtain ⟨h, e1, q⟩ := L.hol i _ e'
      rw [r.rf.1]
      cases q with
      | lst q => exact .inl ⟨_, .inl (.inl e1), emp q⟩
    · cases e
      rename_i kvs e'
      obtain ⟨h, e1, q⟩ := L.hol i _ e'
      rw [r.rf.1]
      cases q with
      | dK q => exact .inr (.inr ⟨_, e1, by cases q <;> rfl⟩)
    · cases e
  · exact sq r e
/-! ### data's lists -/
theorem Lay.lstD {K : KF} {S : St} {μ : Nat → Addr} {H R : Hp} (L : Lay K ca S μ H R) {x : W} {v : V} {ds : List PyData} (r : RV K μ S.n R x v) (e : lstD S x = some ds) : ∃ a vs, v = .ref a ∧ SqL K H a vs ∧ DpAll K H vs ds := by
  unfold Py.lstD at e
  split at e
  · rename_i ds' e'
    cases e
    have d := L.toD 2 _ _ _ r e'
    cases d with
    | lst h hs => exact ⟨_, _, rfl, h, hs⟩
  · cases e
theorem ints_vs {K : KF} {H : Hp} : ∀ {ds : List PyData} {vs : List V} {ns : List Int}, DpAll K H vs ds → intsD ds = some ns → vs = ns.map V.int
  | _, _, ns, .nil, e => by
    unfold intsD at e
    cases e
    rfl
  | _, _, ns, .cons h hs, e => by
    cases h with
    | int i =>
      unfold intsD at e
      obtain ⟨ms, e1, e2⟩ := Option.map_eq_some_iff.mp e
      subst e2
      rw [ints_vs hs e1]
      rfl
    | _ => unfold intsD at e; cases e
theorem bls_vs {K : KF} {H : Hp} : ∀ {ds : List PyData} {vs : List V} {ns : List Bool}, DpAll K H vs ds → blsD ds = some ns → vs = ns.map V.bl
  | _, _, ns, .nil, e => by
    unfold blsD at e
    cases e
    rfl
  | _, _, ns, .cons h hs, e => by
    cases h with
    | bl i =>
      unfold blsD at e
      obtain ⟨ms, e1, e2⟩ := Option.map_eq_some_iff.mp e
      subst e2
      rw [bls_vs hs e1]
      rfl
    | _ => unfold blsD at e; cases e
theorem strs_vs {K : KF} {H : Hp} : ∀ {ds : List PyData} {vs : List V} {ns : List Str}, DpAll K H vs ds → strsD ds = some ns → vs = ns.map V.str
  | _, _, ns, .nil, e => by
    unfold strsD at e
    cases e
    rfl
  | _, _, ns, .cons h hs, e => by
    cases h with
    | str i =>
      unfold strsD at e
      obtain ⟨ms, e1, e2⟩ := Option.map_eq_some_iff.mp e
      subst e2
      rw [strs_vs hs e1]
      rfl
    | _ => unfold strsD at e; cases e
/-! ### builtins -/
def biV : BI → Value
  | .len => .builtin "len" | .list_ => .type "list" | .sorted_ => .builtin "sorted" | .all_ => .builtin "all" | .any_ => .builtin "any" | .str_ => .type "str" | .int_ => .type "int"
  | .min_ => .builtin "min" | .max_ => .builtin "max" | .sum_ => .builtin "sum" | .tuple_ => .type "tuple" | .abs_ => .builtin "abs"
def CallS (X : Cx) (ca : CF) (f : Value) (g : List W → M W) : Prop :=
  ∀ (pins : List (Addr × Obj)) (s : Shared) (σ : L2.St) (H : Hp) (us : List Value) (S : St) (μ : Nat → Addr) (R : Hp) (ws : List W) (vs : List V) (Q : VK) (E' : String → St → Prop),
    Inv X pins σ H s → Vals vs us → Lay X.K ca S μ H R → RVs X.K μ S.n R ws vs → (g ws S).post (PQ X.K ca μ S.n R Q) E' →
    wpAny (model X.prog X.w) X.A (call f us) (EP X pins σ Q) X.xe s
theorem rvs1 {K : KF} {μ : Nat → Addr} {n : Nat} {R : Hp} {w : W} {vs : List V} (r : RVs K μ n R [w] vs) : ∃ v, vs = [v] ∧ RV K μ n R w v := by
  cases r with
  | cons a b => cases b; exact ⟨_, rfl, a⟩
theorem rvs2 {K : KF} {μ : Nat → Addr} {n : Nat} {R : Hp} {w x : W} {vs : List V} (r : RVs K μ n R [w, x] vs) : ∃ v u, vs = [v, u] ∧ RV K μ n R w v ∧ RV K μ n R x u := by
  cases r with
  | cons a b =>
    obtain ⟨u, rfl, c⟩ := rvs1 b
    exact ⟨_, _, rfl, a, c⟩
theorem ops_bi (hc : X.calm = true) (f : Bool) (b : BI) : CallS X ca (biV b) (biM f b) := by
  intro pins s σ H us S μ R ws vs Q E' I rs L r h
  unfold biM at h
  split at h
  · rename_i w
    obtain ⟨v, rfl, rv⟩ := rvs1 r
    obtain ⟨o, e, q⟩ := okW_post h
    obtain ⟨k, e1, e2⟩ := Option.map_eq_some_iff.mp e
    subst e2
    have fin : Q (.int k) H := grow0 q L (.d (.int k))
    have sq : ∀ {y : W}, RV X.K μ S.n R y v → (seqOf S y).map (fun p => (p.2.length : Int)) = some k → wpAny (model X.prog X.w) X.A (call (biV .len) us) (EP X pins σ Q) X.xe s := fun {y} r e => by
      obtain ⟨⟨kk, ws⟩, e1, e2⟩ := Option.map_eq_some_iff.mp e
      obtain ⟨a, vs, rfl, r1, h1⟩ := L.seq r e1
      have e2 : (ws.length : Int) = k := e2
      rw [r1.length] at e2
      subst e2
      exact call_len_seq pins s σ H _ us Q I rs ⟨a, vs, rfl, h1.elim (fun z => .inl z.2) (fun z => .inr z.2), fin⟩
    unfold lenM at e1
    split at e1
    · split at e1
      · rename_i z hl
        cases e1
        have ev := rv.str
        subst ev
        exact call_len_str pins s σ H _ us Q I rs ⟨z, rfl, hl, fin⟩
      · cases e1
    · rename_i i
      split at e1
      · rename_i ws e'
        cases e1
        obtain ⟨h, e3, q⟩ := L.hol i _ e'
        obtain ⟨ev, _⟩ := rv.rf
        subst ev
        cases q with
        | lst q =>
          rw [q.length] at fin
          exact call_len_seq pins s σ H _ us Q I rs ⟨_, _, rfl, .inl (.inl (.inl e3)), fin⟩
      · rename_i kvs e'
        cases e1
        obtain ⟨h, e3, q⟩ := L.hol i _ e'
        obtain ⟨ev, _⟩ := rv.rf
        subst ev
        obtain ⟨u, rfl, ru⟩ := vals1 rs
        cases ru
        cases q with
        | dK q =>
          rw [q.len] at fin
          exact d_len I (.inl e3) fun t s' I' => ⟨.int _, H, I', ⟨t, rfl⟩, fin⟩
      · rename_i kvs e'
        cases e1
        obtain ⟨h, e3, q⟩ := L.hol i _ e'
        obtain ⟨ev, _⟩ := rv.rf
        subst ev
        obtain ⟨u, rfl, ru⟩ := vals1 rs
        cases ru
        cases q with
        | fK q =>
          rw [q.len] at fin
          exact d_len I (.inr ⟨_, e3⟩) fun t s' I' => ⟨.int _, H, I', ⟨t, rfl⟩, fin⟩
      · cases e1
    · exact sq rv e1
  · rename_i w
    obtain ⟨v, rfl, rv⟩ := rvs1 r
    split at h
    · rename_i k ws e
      obtain ⟨a, vs, rfl, r1, h1⟩ := L.seq rv e
      refine call_list_of pins s σ H _ us Q I rs ⟨a, vs, rfl, h1.elim (fun z => .inl z.2) (fun z => .inr z.2), fun p hp => ?_⟩
      obtain ⟨_, w, S', μ', R', q, g, L', rw'⟩ := L.mkL hp r1 h
      exact q μ' _ R' _ g L' rw'
    · exact False.elim h
  · rename_i w
    obtain ⟨v, rfl, rv⟩ := rvs1 r
    split at h
    · rename_i ws e
      obtain ⟨a, vs, rfl, r1, h1⟩ := L.seq rv e
      have h1 := h1.resolve_right fun z => nomatch z.1
      refine call_tuple_of pins s σ H _ us Q I rs ⟨a, vs, rfl, .inl ⟨h1.2, fun p hp => ?_⟩⟩
      obtain ⟨L1, g⟩ := L.newD (h := .tup vs) hp
      exact h μ _ _ _ g L1 (mkTup_rv upd_same (r1.mono g))
    · rename_i ws e
      obtain ⟨a, vs, rfl, r1, h1⟩ := L.seq rv e
      have h1 := h1.resolve_left fun z => nomatch z.1
      exact call_tuple_of pins s σ H _ us Q I rs ⟨a, vs, rfl, .inr ⟨h1.2, grow0 h L rv⟩⟩
    · exact False.elim h
  · rename_i w
    obtain ⟨v, rfl, rv⟩ := rvs1 r
    split at h
    · rename_i bs e
      obtain ⟨ds, e1, e2⟩ := Option.bind_eq_some_iff.mp e
      obtain ⟨a, vs, rfl, h1, h2⟩ := L.lstD rv e1
      have := bls_vs h2 e2
      subst this
      exact cr_all hc pins s σ H _ us Q I rs ⟨a, bs, rfl, h1, grow0 h L (.d (.bl _))⟩
    · exact False.elim h
  · rename_i w
    obtain ⟨v, rfl, rv⟩ := rvs1 r
    split at h
    · rename_i bs e
      obtain ⟨ds, e1, e2⟩ := Option.bind_eq_some_iff.mp e
      obtain ⟨a, vs, rfl, h1, h2⟩ := L.lstD rv e1
      have := bls_vs h2 e2
      subst this
      exact cr_any hc pins s σ H _ us Q I rs ⟨a, bs, rfl, h1, grow0 h L (.d (.bl _))⟩
    · exact False.elim h
  · rename_i w
    obtain ⟨v, rfl, rv⟩ := rvs1 r
    split at h
    · rename_i bs e
      obtain ⟨ds, e1, e2⟩ := Option.bind_eq_some_iff.mp e
      obtain ⟨a, vs, rfl, h1, h2⟩ := L.lstD rv e1
      have := ints_vs h2 e2
      subst this
      exact cr_sum hc pins s σ H _ us Q I rs ⟨a, bs, rfl, h1, grow0 h L (.d (.int _))⟩
    · exact False.elim h
  · rename_i i
    obtain ⟨v, rfl, rv⟩ := rvs1 r
    have ev := rv.int
    subst ev
    exact call_abs pins s σ H _ us Q I rs ⟨i, rfl, grow0 h L (.d (.int _))⟩
  · rename_i i j
    obtain ⟨v, v2, rfl, rv, rv2⟩ := rvs2 r
    have ev := rv.int
    have ev2 := rv2.int
    subst ev ev2
    exact call_min2 hc pins s σ H _ us Q I rs ⟨i, j, rfl, grow0 h L (.d (.int _))⟩
  · rename_i i j
    obtain ⟨v, v2, rfl, rv, rv2⟩ := rvs2 r
    have ev := rv.int
    have ev2 := rv2.int
    subst ev ev2
    exact call_max2 hc pins s σ H _ us Q I rs ⟨i, j, rfl, grow0 h L (.d (.int _))⟩
  · rename_i i
    obtain ⟨v, rfl, rv⟩ := rvs1 r
    have ev := rv.int
    subst ev
    exact call_int1 pins s σ H _ us Q I rs (.inl ⟨i, rfl, grow0 h L (.d (.int _))⟩)
  · rename_i i
    obtain ⟨v, rfl, rv⟩ := rvs1 r
    have ev := rv.bl
    subst ev
    exact call_int1 pins s σ H _ us Q I rs (.inr ⟨i, rfl, grow0 h L (.d (.int _))⟩)
  · rename_i z
    obtain ⟨v, rfl, rv⟩ := rvs1 r
    have ev := rv.str
    subst ev
    split at h
    · rename_i k e
      split at h
      · rename_i hl
        exact call_int_str pins s σ H _ us Q I rs ⟨z, k, rfl, e, hl, grow0 h L (.d (.int _))⟩
      · exact False.elim h
    · exact False.elim h
  · rename_i i
    obtain ⟨v, rfl, rv⟩ := rvs1 r
    have ev := rv.int
    subst ev
    split at h
    · rename_i hl
      exact call_str_int pins s σ H _ us Q I rs ⟨i, rfl, hl, grow0 h L (.d (.str _))⟩
    · exact False.elim h
  · exact False.elim h
end
end Py

/-! Ops4: builtin types' methods; what is walked. -/
namespace Py
open PySem PySem.Spec PyProof.Rows L2
open Evl (Ex ex_l ex_t ex_rd fresh_back)

/-! ### methods -/
def BM.nm : BM → Str
  | .append => "append" | .pop => "pop" | .extend => "extend" | .join => "join" | .get => "get" | .split => "split" | .insert => "insert" | .clear => "clear" | .upper => "upper"
def KT.ty : KT → String
  | .lst => "list" | .dct => "dict" | .str => "str"
theorem mid_ok : ∀ {k : KT} {m : BM} {id : String}, mid k m = some id → PlainAttrs k.ty ∧ Slot k.ty m.nm id ∧ typeOf (.builtin id) = pure (.type "method_descriptor")
  | .lst, .append, _, e => by cases e; exact ⟨F.plainAttrs_list, F.slot_list_append, F.type_list_append⟩
  | .lst, .pop, _, e => by cases e; exact ⟨F.plainAttrs_list, F.slot_list_pop, F.type_list_pop⟩
  | .lst, .extend, _, e => by cases e; exact ⟨F.plainAttrs_list, F.slot_list_extend, F.type_list_extend⟩
  | .lst, .insert, _, e => by cases e; exact ⟨F.plainAttrs_list, F.slot_list_insert, F.type_list_insert⟩
  | .lst, .clear, _, e => by cases e; exact ⟨F.plainAttrs_list, F.slot_list_clear, F.type_list_clear⟩
  | .dct, .pop, _, e => by cases e; exact ⟨F.plainAttrs_dict, F.slot_dict_pop, F.type_dict_pop⟩
  | .dct, .get, _, e => by cases e; exact ⟨F.plainAttrs_dict, F.slot_dict_get, F.type_dict_get⟩
  | .str, .join, _, e => by cases e; exact ⟨F.plainAttrs_str, F.slot_str_join, F.type_str_join⟩
  | .str, .split, _, e => by cases e; exact ⟨F.plainAttrs_str, F.slot_str_split, F.type_str_split⟩
  | .str, .upper, _, e => by cases e; exact ⟨F.plainAttrs_str, F.slot_str_upper, F.type_str_upper⟩
  | .lst, .join, _, e => by cases e
  | .lst, .get, _, e => by cases e
  | .lst, .split, _, e => by cases e
  | .lst, .upper, _, e => by cases e
  | .dct, .append, _, e => by cases e
  | .dct, .extend, _, e => by cases e
  | .dct, .join, _, e => by cases e
  | .dct, .split, _, e => by cases e
  | .dct, .insert, _, e => by cases e
  | .dct, .clear, _, e => by cases e
  | .dct, .upper, _, e => by cases e
  | .str, .append, _, e => by cases e
  | .str, .pop, _, e => by cases e
  | .str, .extend, _, e => by cases e
  | .str, .get, _, e => by cases e
  | .str, .insert, _, e => by cases e
  | .str, .clear, _, e => by cases e
section
variable {X : Cx} {ca : CF}
/-- the receiver's type, where the method is looked up -/
theorem kind_ok {pins : List (Addr × Obj)} {σ : L2.St} {H : Hp} {s : Shared} {S : St} {μ : Nat → Addr} {R : Hp} {x : W} {vx : V} {v : Value} {k : KT} (I : Inv X pins σ H s) (rx : RelV vx v) (L : Lay X.K ca S μ H R) (hx : RV X.K μ S.n R x vx) (e : kindW S x = some k) :
    s.TypeIs v k.ty ∧ ∀ a, v = .ref a → ∃ ob, s.heap.get? a = some ob ∧ ob.dict = none := by
  unfold kindW at e
  split at e
  · cases e
    have ex := hx.str
    subst ex
    obtain ⟨t, rfl⟩ := rx
    exact ⟨typeIs_str _ _ _, fun _ z => nomatch z⟩
  · rename_i i
    obtain ⟨ex, _⟩ := hx.rf
    subst ex
    split at e
    · cases e
      rename_i ws e'
      obtain ⟨h, e1, q⟩ := L.hol i _ e'
      cases q with
      | lst q => exact tyV_is (T := "list") I rx (.inl ⟨rfl, _, .inl (.inl e1)⟩)
    · cases e
      rename_i ws e'
      obtain ⟨h, e1, q⟩ := L.hol i _ e'
      cases q with
      | dK q => exact tyV_is (T := "dict") I rx (.inr (.inr (.inl ⟨rfl, .inl ⟨_, e1⟩⟩)))
    · cases e
      rename_i ws e'
      obtain ⟨h, e1, q⟩ := L.hol i _ e'
      cases q with
      | dT q => exact tyV_is (T := "dict") I rx (.inr (.inr (.inl ⟨rfl, .inr ⟨_, e1⟩⟩)))
    · cases e
  · cases e
theorem mt_extendL : MtM X "list.extend" (fun x vs H Q => ∃ l b xs zs, x = .ref l ∧ vs = [.ref b] ∧ H l = some (.lst xs) ∧ Rd H b (.lst zs) ∧ xs.length + zs.length ≤ sizeLine ∧ Q .non (upd H l (.lst (xs ++ zs)))) := by
  intro pins s σ H x vs v us Q I rx rv h
  obtain ⟨l, b, xs, zs, rfl, rfl, hH, hB, hz, q⟩ := h
  cases rx
  obtain ⟨u, rfl, ru⟩ := rv.one
  cases ru
  obtain ⟨z, its, n, r, hl, e⟩ := I.lstM hH
  obtain ⟨z2, its2, n2, r2, hl2, e2⟩ := rd_lst I hB
  have hsz : its.toArray.size + its2.toArray.size ≤ sizeLine := by rw [List.size_toArray, List.size_toArray]; omega
  have hlong : ¬ (!its.toArray.isEmpty && Builtin.List.listTooLong (its.toArray.size + its2.toArray.size)) = true := by
    rw [notLongL hsz, Bool.and_false]
    exact Bool.false_ne_true
  refine call_meets F.slot_list_extend ⟨_, e, rfl⟩ F.entry_list_extend (F.args_list_extend_2 _ _)
    (AutoSeq1.list_extend_list_list_0 l its.toArray n b its2.toArray n2 hlong (by rw [List.size_toArray]; omega) (by omega)) ⟨e, e2, ?_⟩
  refine ⟨.non, _, I.lset (its' := its ++ its2) hH e (by simp) (r.append r2) ?_, rfl, q⟩
  rw [List.length_append]
  omega
def MethS (X : Cx) (ca : CF) (id : String) (g : W → List W → M W) : Prop :=
  ∀ (pins : List (Addr × Obj)) (s : Shared) (σ : L2.St) (H : Hp) (v : Value) (us : List Value) (S : St) (μ : Nat → Addr) (R : Hp) (x : W) (ws : List W) (vx : V) (vs : List V) (Q : VK) (E' : String → St → Prop),
    Inv X pins σ H s → RelV vx v → Vals vs us → Lay X.K ca S μ H R → RV X.K μ S.n R x vx → RVs X.K μ S.n R ws vs → (g x ws S).post (PQ X.K ca μ S.n R Q) E' →
    wpAny (model X.prog X.w) X.A (call (.builtin id) (v :: us)) (EP X pins σ Q) X.xe s
theorem bm_mid {f : Bool} {k : KT} {m : BM} {x : W} {ws : List W} {S : St} {P : W → St → Prop} {E : String → St → Prop} (h : (bmM f k m x ws S).post P E) : ∃ id, mid k m = some id := by
  cases k <;> cases m <;> first
    | exact ⟨_, rfl⟩
    | (exfalso; unfold bmM at h; simp only [Res.post] at h)
theorem ops_bm (hu : X.A.units + 128 < cLine) (f : Bool) (k : KT) (m : BM) {id : String} (hid : mid k m = some id) : MethS X ca id (bmM f k m) := by
  intro pins s σ H v us S μ R x ws vx vs Q E' I rx rs L hx r h
  have hu1 : X.A.units + 1 < cLine := by omega
  unfold bmM at h
  split at h
  · rename_i i y
    cases hid
    obtain ⟨ex, _⟩ := hx.rf
    subst ex
    obtain ⟨vy, rfl, ry⟩ := rvs1 r
    split at h
    · rename_i xs e'
      obtain ⟨ho, e1, q⟩ := L.hol i _ e'
      split at h
      · rename_i hl
        cases q with
        | lst q =>
          rename_i hvs
          refine mt_append pins s σ H _ _ v us Q I rx rs ⟨_, _, vy, rfl, rfl, e1, by rw [← q.length]; exact hl, ?_⟩
          exact h μ _ R _ (Grow.refl _ _ _) (L.put e' (.lst (q.append (.cons ry .nil)))) (.d .non)
      · exact False.elim h
    · exact False.elim h
  · rename_i i
    cases hid
    obtain ⟨ex, _⟩ := hx.rf
    subst ex
    cases r
    split at h
    · rename_i xs e'
      obtain ⟨ho, e1, q⟩ := L.hol i _ e'
      split at h
      · rename_i y ey
        cases q with
        | lst q =>
          rename_i hvs
          obtain ⟨vy, e2, ry⟩ := q.get ey
          rw [q.length] at e2
          refine mt_pop pins s σ H _ _ v us Q I rx rs ⟨_, _, vy, rfl, rfl, e1, e2, ?_⟩
          exact h μ _ R _ (Grow.refl _ _ _) (L.put e' (.lst q.dropLast)) ry
      · exact False.elim h
    · exact False.elim h
  · rename_i i k
    cases hid
    obtain ⟨ex, _⟩ := hx.rf
    subst ex
    obtain ⟨vy, rfl, ry⟩ := rvs1 r
    split at h
    · rename_i kvs e'
      obtain ⟨ho, e1, q⟩ := L.hol i _ e'
      split at h
      · rename_i key ek
        split at h
        · rename_i w ew
          cases q with
          | dK q =>
            rename_i hvs
            have z := q.val key
            rw [ew] at z
            have ev := keyW_kV ry ek
            subst ev
            cases e3 : valV hvs key with
            | none => rw [e3] at z; cases z
            | some vw =>
              rw [e3] at z
              cases z with
              | some z =>
                cases rx
                cases rs with
                | cons ra rb =>
                  cases rb
                  exact d_pop I e1 ra e3 (.inl rfl) fun w' s' I' rw' => ⟨vw, _, I', rw', h μ _ R _ (Grow.refl _ _ _) (L.put e' (.dK q.drop)) z⟩
        · exact False.elim h
      · exact False.elim h
    · exact False.elim h
  · rename_i i y
    cases hid
    obtain ⟨ex, _⟩ := hx.rf
    subst ex
    obtain ⟨vy, rfl, ry⟩ := rvs1 r
    split at h
    · exact False.elim h
    · rename_i hsc
      have hsc : isScr y = false := by simpa using hsc
      split at h
      · rename_i xs ys e' ey
        obtain ⟨ho, e1, q⟩ := L.hol i _ e'
        obtain ⟨b, zs, rfl, r2, h2⟩ := L.lst ry ey hsc
        split at h
        · rename_i hl
          cases q with
          | lst q =>
            rw [q.length, r2.length] at hl
            refine mt_extendL pins s σ H _ _ v us Q I rx rs ⟨_, b, _, zs, rfl, rfl, e1, h2, hl, ?_⟩
            exact h μ _ R _ (Grow.refl _ _ _) (L.put e' (.lst (q.append r2))) (.d .non)
        · exact False.elim h
      · exact False.elim h
  · rename_i i j y
    cases hid
    obtain ⟨ex, _⟩ := hx.rf
    subst ex
    obtain ⟨vj, vy, rfl, rj, ry⟩ := rvs2 r
    have ej := rj.int
    subst ej
    split at h
    · rename_i xs e'
      obtain ⟨ho, e1, q⟩ := L.hol i _ e'
      split at h
      · rename_i hl
        obtain ⟨h1, h2, h3⟩ := hl
        cases q with
        | lst q =>
          rw [q.length] at h1
          refine mt_insert pins s σ H _ _ v us Q I rx rs ⟨_, _, j, vy, rfl, rfl, e1, h1, h2, h3, ?_⟩
          exact h μ _ R _ (Grow.refl _ _ _) (L.put e' (.lst (((q.take _).append (.cons ry .nil)).append (q.drop _)))) (.d .non)
      · exact False.elim h
    · exact False.elim h
  · rename_i i k y
    cases hid
    obtain ⟨ex, _⟩ := hx.rf
    subst ex
    obtain ⟨vk, vy, rfl, rk, ry⟩ := rvs2 r
    split at h
    · rename_i o e
      obtain ⟨q, g, ro⟩ := L.dget rk e
      cases rx
      cases rs with
      | cons ra rb =>
        cases rb with
        | cons rb rc =>
          cases rc
          exact d_get2 hu1 I g ra rb fun w' s' I' rw' => ⟨_, H, I', rw', grow0 h L (ro.getD ry)⟩
    · exact False.elim h
  · rename_i i
    cases hid
    obtain ⟨ex, _⟩ := hx.rf
    subst ex
    cases r
    split at h
    · rename_i xs e'
      obtain ⟨ho, e1, q⟩ := L.hol i _ e'
      cases q with
      | lst q =>
        refine mt_clear pins s σ H _ _ v us Q I rx rs ⟨_, _, rfl, rfl, e1, ?_⟩
        exact h μ _ R _ (Grow.refl _ _ _) (L.put e' (.lst .nil)) (.d .non)
    · exact False.elim h
  · rename_i z y
    cases hid
    have ex := hx.str
    subst ex
    obtain ⟨vy, rfl, ry⟩ := rvs1 r
    split at h
    · rename_i ys e
      obtain ⟨ds, e1, e2⟩ := Option.bind_eq_some_iff.mp e
      obtain ⟨a, vs, rfl, h1, h2⟩ := L.lstD ry e1
      have := strs_vs h2 e2
      subst this
      split at h
      · rename_i hl
        exact mt_join pins s σ H _ _ v us Q I rx rs ⟨z, a, ys, rfl, rfl, .inl h1, hl, grow0 h L (.d (.str _))⟩
      · exact False.elim h
    · exact False.elim h
  · rename_i a b
    cases hid
    have ex := hx.str
    subst ex
    obtain ⟨vy, rfl, ry⟩ := rvs1 r
    have ey := ry.str
    subst ey
    split at h
    · rename_i hl
      refine mt_split pins s σ H _ _ v us Q I rx rs ⟨a, b, rfl, rfl, hl.1, hl.2, fun p hp => ?_⟩
      have rr : ∀ zs : List Str, RVs X.K μ S.n R (zs.map fun z => .d (.str z)) (zs.map V.str) := fun zs => by
        induction zs with
        | nil => exact .nil
        | cons z zs ih => exact .cons (.d (.str z)) ih
      obtain ⟨_, w, S', μ', R', q, g, L', rw'⟩ := L.mkL hp (rr _) h
      exact q μ' _ R' _ g L' rw'
    · exact False.elim h
  · rename_i a
    cases hid
    have ex := hx.str
    subst ex
    cases r
    split at h
    · rename_i hl
      exact mt_upper pins s σ H _ _ v us Q I rx rs ⟨a, rfl, rfl, hl, grow0 h L (.d (.str _))⟩
    · exact False.elim h
  · exact False.elim h

/-! ### what is walked -/
/-- J gives the items of I, from whatever the world was then -/
def Feeds (K : KF) (ca : CF) (μ0 : Nat → Addr) (n0 : Nat) (R0 : Hp) (I : Itm) (J : It) : Prop :=
  ∀ (F : Hp) (S : St) (μ : Nat → Addr) (H R : Hp), Grow μ0 n0 R0 μ S.n R → Lay K ⟨ca.ca, F⟩ S μ H R → I.ok S →
    (∀ i, i < I.ws.length → J.go i H) ∧ J.stop I.ws.length H ∧
    ∀ i x H' w, I.ws[i]? = some w → J.yld i H x H' → ∃ R', Grow μ S.n R μ S.n R' ∧ Lay K ⟨ca.ca, F⟩ S μ H' R' ∧ RV K μ S.n R' w x
/-- the store's list w is still ws -/
def keepP (w : W) (ws : List W) (S : St) : Prop := match w with
  | .ref i => S.o i = some (.lst ws)
  | _ => True
/-- a list's or tuple's items, as they are to be seen -/
theorem seq_at {K : KF} {ca : CF} {S0 : St} {μ0 : Nat → Addr} {H0 R0 : Hp} (L0 : Lay K ca S0 μ0 H0 R0) {w : W} {v : V} {b : Bool} {ws : List W} (r : RV K μ0 S0.n R0 w v) (e : seqOf S0 w = some (b, ws)) :
    ∃ a, v = .ref a ∧ ∀ (F : Hp) (S : St) (μ : Nat → Addr) (H R : Hp), Grow μ0 S0.n R0 μ S.n R → Lay K ⟨ca.ca, F⟩ S μ H R → keepP w ws S →
      ∃ vs, RVs K μ S.n R ws vs ∧ ((b = true ∧ SqL K H a vs) ∨ (b = false ∧ SqT K H a vs)) := by
  cases r with
  | d h =>
    cases h with
    | lst h hs =>
      cases e
      exact ⟨_, rfl, fun F S μ H R g L _ => ⟨_, .of_d (hs.mono g.ex), .inl ⟨rfl, .inl (ex_rd L.sub (ex_rd g.ex h))⟩⟩⟩
    | tup h hs =>
      cases e
      exact ⟨_, rfl, fun F S μ H R g L _ => ⟨_, .of_d (hs.mono g.ex), .inr ⟨rfl, st_of (L.sub _ _ (g.ex _ _ h))⟩⟩⟩
    | ktup h h3 hs =>
      cases e
      exact ⟨_, rfl, fun F S μ H R g L _ => ⟨_, .of_d (hs.mono g.ex), .inr ⟨rfl, ex_t L.sub (ex_t g.ex h)⟩⟩⟩
    | _ => cases e
  | tup h hs =>
    cases e
    exact ⟨_, rfl, fun F S μ H R g L _ => ⟨_, hs.mono g, .inr ⟨rfl, st_of (L.sub _ _ (g.ex _ _ h))⟩⟩⟩
  | scr h =>
    cases e
    exact ⟨_, rfl, fun F S μ H R g L _ => ⟨_, .of_ints _, .inl ⟨rfl, ex_l L.sub (ex_l g.ex h)⟩⟩⟩
  | ref hi =>
    rename_i i
    have e : (match S0.o i with
      | some (.lst ws) => some (true, ws)
      | _ => none) = some (b, ws) := e
    split at e
    · rename_i ws' e'
      cases e
      refine ⟨_, rfl, fun F S μ H R g L hk => ?_⟩
      obtain ⟨h, e1, q⟩ := L.hol i _ hk
      rw [g.eq i hi] at e1
      cases q with
      | lst q => exact ⟨_, q, .inl ⟨rfl, .inl (.inl e1)⟩⟩
    · cases e
end
end Py

/-! Chk: whether an expression, a statement of ours is that of the text. -/
namespace Py
open PySem PySem.Spec PyProof.Rows L2

/-- where a text stands: the names by slot, the scope, the names whose cells are its own -/
structure SC where
  N : List Str
  sc : Scope
  fn : Str → Bool
def kindN (sc : Scope) (x : Str) : Option NameKind := sc.names.lookup x
def visB (sc : Scope) (x : Str) : Bool := match kindN sc x with
  | some .local | some .cell | some .free => true
  | _ => false
def locB (c : SC) (x : Str) : Bool := match kindN c.sc x with
  | some .local => true
  | some .cell => c.fn x
  | _ => false
def glB (sc : Scope) (x : Str) : Bool := match kindN sc x with
  | some .globalImplicit => true
  | _ => false
def plainN (x : Str) : Bool := !(x == ("__debug__" : Str)) && !(x == ("__classdict__" : Str)) && !decide (x = "__name__")
def slotB (c : SC) (i : Nat) (x : Str) : Bool := decide (c.N[i]? = some x) && plainN x
def conB : PyData → Const → Bool
  | .none, .none => true
  | .bool a, .bool b => a == b
  | .int a, .int b => decide (a = b)
  | .str a, .str b => decide (a = b)
  | _, _ => false
def noStar : Expr → Bool
  | .Starred .. => false
  | _ => true
def noSlice : Expr → Bool
  | .Slice .. => false
  | _ => true
def noSet : Expr → Bool
  | .Set .. => false
  | _ => true
def noCall0 : Expr → Bool
  | .Call (.Name _ _) [] [] _ => false
  | _ => true
/-- an expression whose test is by its value's truth -/
def valTest : Expr → Bool
  | .Name .. | .Call .. | .Attribute .. | .Subscript .. => true
  | _ => false
def tstB : E → Expr → Bool
  | .cmp .., .Compare .. => true
  | .chain .., .Compare .. => true
  | _, x => valTest x
def bopB : B → Operator → Bool
  | .add, .Add | .sub, .Sub | .mul, .Mult | .fdiv, .FloorDiv | .mod, .Mod | .pow, .Pow => true
  | _, _ => false
theorem bopB_ok {op : B} {o : Operator} (h : bopB op o = true) : o = bop op := by cases op <;> cases o <;> first | rfl | cases h
def copB : C → CmpOp → Bool
  | .eq, .Eq | .ne, .NotEq | .lt, .Lt | .le, .LtE | .gt, .Gt | .ge, .GtE | .in_, .In | .nin, .NotIn | .isN, .Is | .notN, .IsNot => true
  | _, _ => false
theorem copB_ok {op : C} {o : CmpOp} (h : copB op o = true) : o = cop op := by cases op <;> cases o <;> first | rfl | cases h
def BI.nm : BI → String
  | .len => "len" | .list_ => "list" | .sorted_ => "sorted" | .all_ => "all" | .any_ => "any" | .str_ => "str" | .int_ => "int" | .min_ => "min" | .max_ => "max" | .sum_ => "sum" | .tuple_ => "tuple" | .abs_ => "abs"
/-- own slots with their names -/
def ownP (c : SC) (own : List Nat) : List (Str × Nat) := own.map fun i => (c.N.getD i "", i)
def SC.blk (c : SC) (scope : Scope) : SC := ⟨c.N, relS scope c.sc, fun x => scope.names.lookup x == some .cell⟩
def tyName : Expr → String → Bool
  | .Name x _, t => decide (x = Str.ofString t)
  | _, _ => false
/-- what of a program's text the checks lean on: how many parameters, the defaults -/
structure Sig where
  dfl : List PyData
structure Tab where
  sig : String → Option Sig
  mth : String → String → Option String
  ini : String → Option String
  own : List String
  excs : List String
  mkeys : String → List String
def dataB : PyData → PyData → Bool
  | .int a, .int b => decide (a = b)
  | _, _ => false
def datasB : List PyData → List PyData → Bool
  | [], [] => true
  | a :: r, b :: q => dataB a b && datasB r q
  | _, _ => false
/-- so many arguments are written, ds fill up -/
def fillB (s : Option Sig) (ds : List PyData) : Bool := match s with
  | some s => datasB (s.dfl.drop (s.dfl.length - ds.length)) ds && decide (ds.length ≤ s.dfl.length)
  | none => false

def chkPt (c : SC) : Pt → Expr → Bool
  | .v i, .Name x _ => slotB c i x && locB c x
  | .t ps, .Tuple xs _ _ => chkPts ps xs
  | _, _ => false
where
  chkPts : List Pt → List Expr → Bool
    | [], [] => true
    | p :: ps, x :: xs => noStar x && chkPt c p x && chkPts ps xs
    | _, _ => false
def ptVars : Pt → List Nat
  | .v i => [i]
  | .t ps => vars ps
where
  vars : List Pt → List Nat
    | [] => []
    | p :: ps => ptVars p ++ vars ps
def isTup : Expr → Bool
  | .Tuple .. => true
  | _ => false
/-- the arguments of what is walked -/
def itX (c : SC) (k : IK) (tg it : Expr) : Option (List Expr) := match k, it with
  | .seq, it => some [it]
  | .range1, .Call (.Name x _) [y] [] _ => if decide (x = "range") && glB c.sc x then some [y] else none
  | .range2, .Call (.Name x _) [y, z] [] _ => if decide (x = "range") && glB c.sc x then some [y, z] else none
  | .rev, .Call (.Name x _) [y] [] _ => if decide (x = "reversed") && glB c.sc x then some [y] else none
  | .enum, .Call (.Name x _) [y] [] _ => if decide (x = "enumerate") && glB c.sc x && isTup tg then some [y] else none
  | .zip, .Call (.Name x _) [y, z] [] _ => if decide (x = "zip") && glB c.sc x && isTup tg then some [y, z] else none
  | _, _ => none
def chkKs : List E → List (Option Expr) → Bool
  | [], [] => true
  | .k d :: r, some (.Constant k _ _) :: q => conB d k && chkKs r q
  | _, _ => false
mutual
def chkE (T : Tab) (c : SC) : E → Expr → Bool
  | .v i, .Name x _ => slotB c i x && visB c.sc x
  | .k d, .Constant k _ _ => conB d k
  | .g n, .Name x _ => decide (x = Str.ofString n) && glB c.sc x && plainN x
  | .tup es, .Tuple xs _ _ => chkEs T c es xs
  | .lst _ es, .List xs _ => chkEs T c es xs
  | .dK, .Dict [] [] _ => true
  | .dT, .Dict [] [] _ => true
  | .disp ks vs, .Dict xs ys _ => chkKs ks xs && chkEs T c vs ys
  | .bin _ op a b, .BinOp x o y _ => bopB op o && chkE T c a x && chkE T c b y
  | .neg a, .UnaryOp .USub x _ => chkE T c a x
  | .cmp op a b, .Compare x [o] [y] _ => copB op o && !behindInMarks o y && chkE T c a x && chkE T c b y
  | .chain op op' a b d, .Compare x [o, o'] [y, z] _ => copB op o && copB op' o' && !lastMarks [o, o'] [y, z] && chkE T c a x && chkE T c b y && chkE T c d z
  | .and a b, .BoolOp .And (x :: y :: r) p => chkE T c a x && (match r with
    | [] => chkE T c b y
    | _ :: _ => chkE T c b (.BoolOp .And (y :: r) p))
  | .or a b, .BoolOp .Or (x :: y :: r) p => chkE T c a x && (match r with
    | [] => chkE T c b y
    | _ :: _ => chkE T c b (.BoolOp .Or (y :: r) p))
  | .not a, .UnaryOp .Not x _ => chkE T c a x
  | .ite t a b, .IfExp x y z _ => chkT T c t x && chkE T c a y && chkE T c b z
  | .ix a i, .Subscript x y _ => noSlice y && chkE T c a x && chkE T c i y
  | .sl _ a lo hi, .Subscript x (.Slice l h none _) _ => chkE T c a x && chkO T c lo l && chkO T c hi h
  | .fld a f, .Attribute x n _ => decide (n = Str.ofString f) && noCall0 x && chkE T c a x
  | .call n es ds, .Call (.Name x _) xs [] _ => decide (x = Str.ofString n) && glB c.sc x && plainN x && !T.own.contains n && fillB (T.sig n) ds && chkEs T c es xs
  | .new n es, .Call (.Name x _) xs [] _ => decide (x = Str.ofString n) && glB c.sc x && plainN x && chkEs T c es xs
  | .om a m es ds, .Call (.Attribute o x ap) xs [] p => decide (x = Str.ofString m) && noCall0 o && decide (xs.length < 29) && (ap.endLine == p.line) && (T.mkeys m).all (fun k => fillB (T.sig k) ds) && chkE T c a o && chkEs T c es xs
  | .bm _ a m es, .Call (.Attribute o x ap) xs [] p => decide (x = m.nm) && noCall0 o && decide (xs.length < 29) && (ap.endLine == p.line) && chkE T c a o && chkEs T c es xs
  | .bi _ b es, .Call (.Name x _) (y :: ys) [] _ => decide (x = Str.ofString b.nm) && glB c.sc x && chkEs T c es (y :: ys)
  | .isin a [t], .Call (.Name x _) [y, z] [] _ => decide (x = "isinstance") && glB c.sc x && noStar y && chkE T c a y && (match z with
    | .Name n _ => decide (n = Str.ofString t) && glB c.sc n
    | _ => false)
  | .comp _ own p k es cd el, .ListComp e [⟨tg, it, ifs, 0⟩] scope _ => blkC c.N c.sc scope (ownP c own) && noSet it && (ptVars p).all own.contains && chkPt (c.blk scope) p tg && (match itX c k tg it with
    | some xs => chkEs T c es xs
    | none => false) && chkOT T (c.blk scope) cd ifs && chkE T (c.blk scope) el e
  | .fz a, x => chkE T c a x
  | _, _ => false
def chkEs (T : Tab) (c : SC) : List E → List Expr → Bool
  | [], [] => true
  | a :: r, x :: q => noStar x && chkE T c a x && chkEs T c r q
  | _, _ => false
def chkO (T : Tab) (c : SC) : Option E → Option Expr → Bool
  | none, none => true
  | some a, some x => chkE T c a x
  | _, _ => false
def chkOT (T : Tab) (c : SC) : Option Tst → List Expr → Bool
  | none, [] => true
  | some a, [x] => chkT T c a x
  | _, _ => false
def chkT (T : Tab) (c : SC) : Tst → Expr → Bool
  | .e a, x => tstB a x && chkE T c a x
  | .and a b, .BoolOp .And (x :: y :: r) p => chkT T c a x && (match r with
    | [] => chkT T c b y
    | _ :: _ => chkT T c b (.BoolOp .And (y :: r) p))
  | .or a b, .BoolOp .Or (x :: y :: r) p => chkT T c a x && (match r with
    | [] => chkT T c b y
    | _ :: _ => chkT T c b (.BoolOp .Or (y :: r) p))
  | .not a, .UnaryOp .Not x _ => chkT T c a x
  | _, _ => false
end

/-! ### statements -/
def notComp : Expr → Bool
  | .ListComp .. | .SetComp .. | .DictComp .. => false
  | _ => true
def isCompE : E → Bool
  | .comp .. => true
  | _ => false
/-- the store's ways that need care -/
def swB (c : SC) (p : Pt) (e : E) (tg x : Expr) : Bool := match x with
  | .ListComp _ _ scope cpos => (match p, tg with
    | .v _, .Name y py => isCompE e && (match c.sc.kind with | .function => true | _ => false) && decide (kindN c.sc y = some .local) && (py.line == cpos.line) && !(scope.names.any fun (n, k) => n == y && (k == .local || k == .cell))
    | _, _ => false)
  | .SetComp .. | .DictComp .. => false
  | .Tuple .. => (match tg with
    | .Name .. => true
    | _ => false)
  | _ => true
def rsX : Option Expr → Option Expr → Option Str
  | some (.Call (.Name x _) [.Constant (.str _) _ _] [] _), none => some x
  | _, _ => none
mutual
def chkS (T : Tab) (c : SC) : S → Stmt → Bool
  | .asg p e, .Assign [tg] x _ => chkPt c p tg && chkE T c e x && swB c p e tg x
  | .sset a i e, .Assign [.Subscript o y _] x _ => noSlice y && chkE T c a o && chkE T c i y && chkE T c e x
  | .fset a f e, .Assign [.Attribute o n _] x _ => decide (n = Str.ofString f) && chkE T c a o && chkE T c e x
  | .augv i op e, .AugAssign (.Name y _) o x _ => slotB c i y && locB c y && bopB op o && chkE T c e x
  | .augf a f op e, .AugAssign (.Attribute o n _) oo x _ => decide (n = Str.ofString f) && bopB op oo && chkE T c a o && chkE T c e x
  | .augs a i op e, .AugAssign (.Subscript o y _) oo x _ => noSlice y && bopB op oo && chkE T c a o && chkE T c i y && chkE T c e x
  | .ex e, .Expr x _ => notComp x && chkE T c e x
  | .ret e, .Return (some x) _ => chkE T c e x
  | .retn, .Return none _ => true
  | .ite t a b, .If x p q _ => chkT T c t x && chkSs T c a p && chkSs T c b q
  | .for_ p k es b, .For tg it body [] _ => noSet it && chkPt c p tg && (match itX c k tg it with
    | some xs => chkEs T c es xs
    | none => false) && chkSs T c b body
  | .whl t b, .While x body [] _ => chkT T c t x && chkSs T c b body
  | .rs n, .Raise e ca _ => (match rsX e ca with
    | some x => decide (x = Str.ofString n) && glB c.sc x && plainN x && T.excs.contains n
    | none => false)
  | .pass, .Pass _ => true
  | .cont, .Continue _ => true
  | .brk, .Break _ => true
  | _, _ => false
def chkSs (T : Tab) (c : SC) : List S → List Stmt → Bool
  | [], [] => true
  | a :: r, x :: q => chkS T c a x && chkSs T c r q
  | _, _ => false
end
end Py

/-! Snd0: what soundness speaks of. -/
namespace Py
open PySem PySem.Spec PyProof.Rows L2
open Evl (Ex ex_l ex_t ex_rd fresh_back)

/-! ### the greatest readings -/
section
variable (X : Cx)
def wE (e : Expr) : TE := fun σ H Q => ∀ (pins : List (Addr × Obj)) (s : Shared), Inv X pins σ H s → wpAny (model X.prog X.w) X.A (eval e X.env) (EP X pins σ Q) X.xe s
def wT (e : Expr) : TT := fun σ H Q => ∀ (pins : List (Addr × Obj)) (s : Shared), Inv X pins σ H s → wpAny (model X.prog X.w) X.A (isTrue e X.env (eval e X.env)) (TP X pins σ Q) X.xe s
def wW (e : Expr) : TT := fun σ H Q => ∀ (whole : Sem Value) (pins : List (Addr × Obj)) (s : Shared), Inv X pins σ H s → wpAny (model X.prog X.w) X.A (isTrue e X.env whole) (TP X pins σ Q) X.xe s
def wA (es : List Expr) : TA := fun σ H Q => ∀ (pos : Pos) (pins : List (Addr × Obj)) (s : Shared), Inv X pins σ H s → wpAny (model X.prog X.w) X.A (spliced (backTo pos (starEach es X.env))) (AP X pins σ Q) X.xe s
def wO (e : Option Expr) : TO := fun σ H Q => ∀ (pins : List (Addr × Obj)) (s : Shared), Inv X pins σ H s → wpAny (model X.prog X.w) X.A (evalPart e X.env) (fun u s' => ∃ o H', Inv X pins σ H' s' ∧ IsPart u o ∧ Q o H') X.xe s
def wTs (ifs : List Expr) : TT := fun σ H Q => ∀ (pins : List (Addr × Obj)) (s : Shared), Inv X pins σ H s →
  wpAny (model X.prog X.w) X.A (forIn ifs true fun c r => if r = true then do let ok ← isTrue c X.env (eval c X.env); pure (ForInStep.yield ok) else pure (ForInStep.yield r)) (TP X pins σ Q) X.xe s
def wI (tg iter : Expr) : TI := fun σ H R => ∀ (pins : List (Addr × Obj)) (s : Shared), Inv X pins σ H s →
  wpAny (model X.prog X.w) X.A (eval iter X.env) (fun v s1 => wpAny (model X.prog X.w) X.A (pyIter v) (PIE X pins σ tg R) X.xe s1) X.xe s
def wG (tg : Expr) : TG := fun v σ H Q => ∀ (pins : List (Addr × Obj)) (s : Shared) (u : Value), Inv X pins σ H s → RelV v u →
  wpAny (model X.prog X.w) X.A (assign tg X.env u) (fun _ s' => ∃ σ' H', Inv X pins σ' H' s' ∧ Q σ' H') X.xe s
def wS (st : Stmt) : TS := fun D σ H => ∀ (pins : List (Addr × Obj)) (s : Shared), Inv X pins σ H s → wpAny (model X.prog X.w) X.A (exec st X.env) (SP X pins D) X.xe s
def wSs (st : List Stmt) : TS := fun D σ H => ∀ (pins : List (Addr × Obj)) (s : Shared), Inv X pins σ H s → wpAny (model X.prog X.w) X.A (execs st X.env) (SP X pins D) X.xe s
variable {X}
theorem pe (e : Expr) : PE X e (wE X e) := ⟨fun pins s σ H Q I h => h pins s I⟩
theorem pt (e : Expr) : PT X e (wT X e) := ⟨fun pins s σ H Q I h => h pins s I⟩
theorem pw (e : Expr) : PW X e (wW X e) := ⟨fun whole pins s σ H Q I h => h whole pins s I⟩
theorem pa (es : List Expr) : PA X es (wA X es) := ⟨fun pos pins s σ H Q I h => h pos pins s I⟩
theorem po (e : Option Expr) : PO X e (wO X e) := ⟨fun pins s σ H Q I h => h pins s I⟩
theorem pts (e : List Expr) : PTs X e (wTs X e) := ⟨fun pins s σ H Q I h => h pins s I⟩
theorem pi (tg iter : Expr) : PI X tg iter (wI X tg iter) := ⟨fun pins s σ H Q I h => h pins s I⟩
theorem pg (tg : Expr) : PG X tg (wG X tg) := ⟨fun pins s σ H v u Q I r h => h pins s u I r⟩
theorem ps (st : Stmt) : PS X st (wS X st) := ⟨fun pins s σ H D I h => h pins s I⟩
theorem pss (st : List Stmt) : PSs X st (wSs X st) := ⟨fun pins s σ H D I h => h pins s I⟩
theorem wE_of {e : Expr} {t : TE} (h : PE X e t) {σ : L2.St} {H : Hp} {Q : VK} (q : t σ H Q) : wE X e σ H Q := fun pins s I => h.run pins s σ H Q I q
theorem wT_of {e : Expr} {t : TT} (h : PT X e t) {σ : L2.St} {H : Hp} {Q : Bool → Hp → Prop} (q : t σ H Q) : wT X e σ H Q := fun pins s I => h.run pins s σ H Q I q
theorem wW_of {e : Expr} {t : TT} (h : PW X e t) {σ : L2.St} {H : Hp} {Q : Bool → Hp → Prop} (q : t σ H Q) : wW X e σ H Q := fun whole pins s I => h.run whole pins s σ H Q I q
theorem wA_of {e : List Expr} {t : TA} (h : PA X e t) {σ : L2.St} {H : Hp} {Q : List V → Hp → Prop} (q : t σ H Q) : wA X e σ H Q := fun pos pins s I => h.run pos pins s σ H Q I q
theorem wO_of {e : Option Expr} {t : TO} (h : PO X e t) {σ : L2.St} {H : Hp} {Q : Option Int → Hp → Prop} (q : t σ H Q) : wO X e σ H Q := fun pins s I => h.run pins s σ H Q I q
theorem wTs_of {e : List Expr} {t : TT} (h : PTs X e t) {σ : L2.St} {H : Hp} {Q : Bool → Hp → Prop} (q : t σ H Q) : wTs X e σ H Q := fun pins s I => h.run pins s σ H Q I q
theorem wI_of {tg e : Expr} {t : TI} (h : PI X tg e t) {σ : L2.St} {H : Hp} {R : It → Hp → Prop} (q : t σ H R) : wI X tg e σ H R := fun pins s I => h.run pins s σ H R I q
theorem wG_of {tg : Expr} {t : TG} (h : PG X tg t) {v : V} {σ : L2.St} {H : Hp} {Q : L2.St → Hp → Prop} (q : t v σ H Q) : wG X tg v σ H Q := fun pins s u I r => h.run pins s σ H v u Q I r q
theorem wS_of {st : Stmt} {t : TS} (h : PS X st t) {D : Ends} {σ : L2.St} {H : Hp} (q : t D σ H) : wS X st D σ H := fun pins s I => h.run pins s σ H D I q
theorem wSs_of {st : List Stmt} {t : TS} (h : PSs X st t) {D : Ends} {σ : L2.St} {H : Hp} (q : t D σ H) : wSs X st D σ H := fun pins s I => h.run pins s σ H D I q
end

/-! ### slots -/
inductive REnv (K : KF) (μ : Nat → Addr) (n : Nat) (R : Hp) : Ev → L2.St → Prop
  | nil : REnv K μ n R [] []
  | hit {w : W} {v : V} {e : Ev} {σ : L2.St} : RV K μ n R w v → REnv K μ n R e σ → REnv K μ n R (some w :: e) (some v :: σ)
  | any {x : Option V} {e : Ev} {σ : L2.St} : REnv K μ n R e σ → REnv K μ n R (none :: e) (x :: σ)
section
variable {K : KF} {μ μ' : Nat → Addr} {n n' : Nat} {R R' : Hp}
theorem REnv.mono (g : Grow μ n R μ' n' R') : ∀ {e : Ev} {σ : L2.St}, REnv K μ n R e σ → REnv K μ' n' R' e σ
  | _, _, .nil => .nil
  | _, _, .hit r t => .hit (r.mono g) (REnv.mono g t)
  | _, _, .any t => .any (REnv.mono g t)
theorem REnv.get : ∀ {e : Ev} {σ : L2.St} {i : Nat} {w : W}, REnv K μ n R e σ → e[i]? = some (some w) → ∃ v, σ[i]? = some (some v) ∧ RV K μ n R w v
  | _, _, _, _, .nil, h => by simp at h
  | _, _, 0, _, .hit r t, h => by
    simp at h
    subst h
    exact ⟨_, rfl, r⟩
  | _, _, 0, _, .any t, h => by simp at h
  | _, _, i + 1, _, .hit r t, h => by
    obtain ⟨v, h1, h2⟩ := REnv.get (i := i) t (by simpa using h)
    exact ⟨v, by simpa using h1, h2⟩
  | _, _, i + 1, _, .any t, h => by
    obtain ⟨v, h1, h2⟩ := REnv.get (i := i) t (by simpa using h)
    exact ⟨v, by simpa using h1, h2⟩
theorem REnv.set {w : W} {v : V} (r : RV K μ n R w v) : ∀ {e : Ev} {σ : L2.St} (i : Nat), REnv K μ n R e σ → REnv K μ n R (e.set i (some w)) (σ.set i (some v))
  | _, _, _, .nil => .nil
  | _, _, 0, .hit _ t => .hit r t
  | _, _, 0, .any t => .hit r t
  | _, _, i + 1, .hit q t => .hit q (REnv.set r i t)
  | _, _, i + 1, .any t => .any (REnv.set r i t)
theorem REnv.wipe1 : ∀ {e : Ev} {σ : L2.St} {x : Option V} (i : Nat), REnv K μ n R e σ → REnv K μ n R (e.set i none) (σ.set i x)
  | _, _, _, _, .nil => .nil
  | _, _, _, 0, .hit _ t => .any t
  | _, _, _, 0, .any t => .any t
  | _, _, _, i + 1, .hit q t => .hit q (REnv.wipe1 i t)
  | _, _, _, i + 1, .any t => .any (REnv.wipe1 i t)
theorem REnv.wipe {e : Ev} {σ : L2.St} (h : REnv K μ n R e σ) : ∀ vs : List Nat, REnv K μ n R (wipeE e vs) (L2.wipe σ vs)
  | [] => h
  | v :: vs => (REnv.wipe h vs).wipe1 v
theorem REnv.length : ∀ {e : Ev} {σ : L2.St}, REnv K μ n R e σ → e.length = σ.length
  | _, _, .nil => rfl
  | _, _, .hit _ t => congrArg Nat.succ (REnv.length t)
  | _, _, .any t => congrArg Nat.succ (REnv.length t)
end

/-! ### what is wished of exceptions, promises, the surroundings -/
def EX (cc : String → Addr) (cw : String → Hp → Prop) : XK := fun cls d H => ∃ c, cls = .ref (cc c) ∧ d = none ∧ cw c H
def XQ (K : KF) (ca : CF) (μ : Nat → Addr) (n : Nat) (R : Hp) (cw : String → Hp → Prop) : String → St → Prop := fun c S' => ∀ μ' H' R', Grow μ n R μ' S'.n R' → Lay K ca S' μ' H' R' → cw c H'
/-- a def's promise -/
def spF (K : KF) (cc : String → Addr) (call : String → List W → M W) (n : String) : Sp := fun vs H Q E => ∃ (ws : List W) (S : St) (μ : Nat → Addr) (R F : Hp), Lay K ⟨cc, F⟩ S μ H R ∧ RVs K μ S.n R ws vs ∧
  (call n ws S).post (PQ K ⟨cc, F⟩ μ S.n R Q) (XQ K ⟨cc, F⟩ μ S.n R fun c H' => E (.ref (cc c)) none H')
structure CallOk (X : Cx) (cc : String → Addr) (call : String → List W → M W) (n : String) (g : Sig) (f : Addr) : Prop where
  ex : ∃ (fd : FuncData) (ps : List Str) (k : Nat), FnOk X.prog X.w X.K X.mg X.base (L2.CX X.prog X.w) k f fd ps (spF X.K cc call n) ∧ Room (k + 1) X.A ∧
    ∀ ds : List PyData, datasB (g.dfl.drop (g.dfl.length - ds.length)) ds = true → ds.length ≤ g.dfl.length → ∃ (dvs : List V) (us : List Value), DVs X.K (fun _ => none) dvs ds ∧ Vals dvs us ∧ Binds X.K fd ps us
structure Amb (X : Cx) (T : Tab) (cc : String → Addr) (c : Cfg) (cw : String → Hp → Prop) : Prop where
  calm : X.calm = true
  nd : X.N.Nodup
  hu : X.A.units + 128 < cLine
  blt : ∀ x : Str, x ∈ (["len", "list", "sorted", "all", "any", "str", "int", "min", "max", "sum", "tuple", "abs", "isinstance", "range", "reversed", "enumerate", "zip", "bool"] : List Str) → X.mg x = none
  glb : ∀ n d, c.glb n = some d → ∃ v u, X.mg (Str.ofString n) = some u ∧ RelV v u ∧ DV X.K (fun _ => none) v d
  call : ∀ n g, T.sig n = some g → T.own.contains n = false → ∃ f, X.mg (Str.ofString n) = some (.ref f) ∧ PySem.W.keepIn X.K (.ref f) = true ∧ CallOk X cc c.call n g f
  mth : ∀ cl m key, c.mth cl m = some key → ∃ f g, T.sig key = some g ∧ key ∈ T.mkeys m ∧ Cls X.K (cc cl) ∧ Meth X.K (cc cl) (Str.ofString m) f ∧ CallOk X cc c.call key g f
  ini : ∀ cl key, c.ini cl = some key → ∃ f g, T.sig key = some g ∧ Mk X.K (cc cl) f ∧ X.mg (Str.ofString cl) = some (.ref (cc cl)) ∧ CallOk X cc c.call key g f
  fls : ∀ cl f, (c.fls cl).contains f = true → Cls X.K (cc cl) ∧ NoAttr X.K (cc cl) (Str.ofString f)
  px : Passes (L2.CX X.prog X.w) X (EX cc cw)
structure Fit (X : Cx) (sc : SC) : Prop where
  n : X.N = sc.N
  s : X.env.scope = sc.sc
  f : X.fn = sc.fn
/-- an expression is what the small machine says -/
def SE (X : Cx) (ca : CF) (cw : String → Hp → Prop) (x : Expr) (m : M W) (ev : Ev) : Prop := ∀ (S : St) (μ : Nat → Addr) (H R : Hp) (σ : L2.St) (Q : VK),
  Lay X.K ca S μ H R → REnv X.K μ S.n R ev σ → (m S).post (PQ X.K ca μ S.n R Q) (XQ X.K ca μ S.n R cw) → wE X x σ H Q
def PQs (K : KF) (ca : CF) (μ : Nat → Addr) (n : Nat) (R : Hp) (Q : List V → Hp → Prop) : List W → St → Prop := fun ws S' => ∀ μ' H' R' vs, Grow μ n R μ' S'.n R' → Lay K ca S' μ' H' R' → RVs K μ' S'.n R' ws vs → Q vs H'
def SA (X : Cx) (ca : CF) (cw : String → Hp → Prop) (xs : List Expr) (m : M (List W)) (ev : Ev) : Prop := ∀ (S : St) (μ : Nat → Addr) (H R : Hp) (σ : L2.St) (Q : List V → Hp → Prop),
  Lay X.K ca S μ H R → REnv X.K μ S.n R ev σ → (m S).post (PQs X.K ca μ S.n R Q) (XQ X.K ca μ S.n R cw) → wA X xs σ H Q
def PQb (K : KF) (ca : CF) (μ : Nat → Addr) (n : Nat) (R : Hp) (Q : Bool → Hp → Prop) : Bool → St → Prop := fun b S' => ∀ μ' H' R', Grow μ n R μ' S'.n R' → Lay K ca S' μ' H' R' → Q b H'
def ST (X : Cx) (ca : CF) (cw : String → Hp → Prop) (x : Expr) (m : M Bool) (ev : Ev) : Prop := ∀ (S : St) (μ : Nat → Addr) (H R : Hp) (σ : L2.St) (Q : Bool → Hp → Prop),
  Lay X.K ca S μ H R → REnv X.K μ S.n R ev σ → (m S).post (PQb X.K ca μ S.n R Q) (XQ X.K ca μ S.n R cw) → wT X x σ H Q
def STs (X : Cx) (ca : CF) (cw : String → Hp → Prop) (x : List Expr) (m : M Bool) (ev : Ev) : Prop := ∀ (S : St) (μ : Nat → Addr) (H R : Hp) (σ : L2.St) (Q : Bool → Hp → Prop),
  Lay X.K ca S μ H R → REnv X.K μ S.n R ev σ → (m S).post (PQb X.K ca μ S.n R Q) (XQ X.K ca μ S.n R cw) → wTs X x σ H Q
def PQo (K : KF) (ca : CF) (μ : Nat → Addr) (n : Nat) (R : Hp) (Q : Option Int → Hp → Prop) : Option Int → St → Prop := fun o S' => ∀ μ' H' R', Grow μ n R μ' S'.n R' → Lay K ca S' μ' H' R' → Q o H'
def SO (X : Cx) (ca : CF) (cw : String → Hp → Prop) (x : Option Expr) (m : M (Option Int)) (ev : Ev) : Prop := ∀ (S : St) (μ : Nat → Addr) (H R : Hp) (σ : L2.St) (Q : Option Int → Hp → Prop),
  Lay X.K ca S μ H R → REnv X.K μ S.n R ev σ → (m S).post (PQo X.K ca μ S.n R Q) (XQ X.K ca μ S.n R cw) → wO X x σ H Q
def PQi (K : KF) (ca : CF) (μ : Nat → Addr) (n : Nat) (R : Hp) (Q : It → Hp → Prop) : Itm → St → Prop := fun I S' => ∀ μ' H' R' J, Grow μ n R μ' S'.n R' → Lay K ca S' μ' H' R' → Feeds K ca μ' S'.n R' I J → Q J H'
def SI (X : Cx) (ca : CF) (cw : String → Hp → Prop) (tg x : Expr) (m : M Itm) (ev : Ev) : Prop := ∀ (S : St) (μ : Nat → Addr) (H R : Hp) (σ : L2.St) (Q : It → Hp → Prop),
  Lay X.K ca S μ H R → REnv X.K μ S.n R ev σ → (m S).post (PQi X.K ca μ S.n R Q) (XQ X.K ca μ S.n R cw) → wI X tg x σ H Q
section
variable {K : KF} {ca : CF} {μ μ1 : Nat → Addr} {n : Nat} {R R1 : Hp} {S1 : St}
theorem PQ.grow {Q : VK} (g : Grow μ n R μ1 S1.n R1) {w : W} {S' : St} (h : PQ K ca μ n R Q w S') : PQ K ca μ1 S1.n R1 Q w S' := fun μ' H' R' v g' L r => h μ' H' R' v (g.trans g') L r
theorem XQ.grow {cw : String → Hp → Prop} (g : Grow μ n R μ1 S1.n R1) {w : String} {S' : St} (h : XQ K ca μ n R cw w S') : XQ K ca μ1 S1.n R1 cw w S' := fun μ' H' R' g' L => h μ' H' R' (g.trans g') L
theorem PQs.grow {Q : List V → Hp → Prop} (g : Grow μ n R μ1 S1.n R1) {w : List W} {S' : St} (h : PQs K ca μ n R Q w S') : PQs K ca μ1 S1.n R1 Q w S' := fun μ' H' R' v g' L r => h μ' H' R' v (g.trans g') L r
theorem PQb.grow {Q : Bool → Hp → Prop} (g : Grow μ n R μ1 S1.n R1) {w : Bool} {S' : St} (h : PQb K ca μ n R Q w S') : PQb K ca μ1 S1.n R1 Q w S' := fun μ' H' R' g' L => h μ' H' R' (g.trans g') L
theorem PQi.grow {Q : It → Hp → Prop} (g : Grow μ n R μ1 S1.n R1) {w : Itm} {S' : St} (h : PQi K ca μ n R Q w S') : PQi K ca μ1 S1.n R1 Q w S' := fun μ' H' R' J g' L r => h μ' H' R' J (g.trans g') L r
theorem DV.up {v : V} {d : PyData} (h : DV K (fun _ => none) v d) (R : Hp) : DV K R v d := h.mono fun _ _ z => by cases z
theorem DVs.up {v : List V} {d : List PyData} (h : DVs K (fun _ => none) v d) (R : Hp) : DVs K R v d := h.mono fun _ _ z => by cases z
end
end Py

/-! Snd1: soundness, construct by construct. -/
namespace Py
open PySem PySem.Spec PyProof.Rows L2
open Evl (Ex ex_l ex_t ex_rd fresh_back)

section
variable {X : Cx} {T : Tab} {ca : CF} {c : Cfg} {cw : String → Hp → Prop} {ev : Ev} {sc : SC}
/-! ### small things -/
theorem Fit.vis (F : Fit X sc) {x : Str} (h : visB sc.sc x = true) : Vis X.env.scope x := by
  rw [F.s]
  unfold visB kindN at h
  split at h
  · exact .inl (by assumption)
  · exact .inr (.inl (by assumption))
  · exact .inr (.inr (by assumption))
  · cases h
theorem Fit.gl (F : Fit X sc) {x : Str} (h : glB sc.sc x = true) : Gl X x := by
  show X.env.scope.names.lookup x = _
  rw [F.s]
  unfold glB kindN at h
  split at h
  · assumption
  · cases h
theorem Fit.slot (F : Fit X sc) {i : Nat} {x : Str} (h : slotB sc i x = true) : X.N[i]? = some x ∧ (x == ("__debug__" : Str)) = false ∧ (x == ("__classdict__" : Str)) = false ∧ x ≠ "__name__" := by
  unfold slotB plainN at h
  rw [Bool.and_eq_true, Bool.and_eq_true, Bool.and_eq_true] at h
  obtain ⟨h1, ⟨h2, h3⟩, h4⟩ := h
  rw [F.n]
  exact ⟨of_decide_eq_true h1, by simpa using h2, by simpa using h3, by simpa using h4⟩
theorem plain_ok {x : Str} (h : plainN x = true) : (x == ("__debug__" : Str)) = false ∧ (x == ("__classdict__" : Str)) = false ∧ x ≠ "__name__" := by
  unfold plainN at h
  rw [Bool.and_eq_true, Bool.and_eq_true] at h
  obtain ⟨⟨h2, h3⟩, h4⟩ := h
  exact ⟨by simpa using h2, by simpa using h3, by simpa using h4⟩
theorem star_ok {e : Expr} {es : List Expr} {env : Env} (h : noStar e = true) : starEach (e :: es) env = (false, eval e env) :: starEach es env := by
  cases e <;> first | rfl | cases h
theorem slice_ok {e : Expr} (h : noSlice e = true) (o i : Value) : subscripted e false o i = operate [o, i] (getItem o i) := by
  cases e <;> first | rfl | cases h
theorem set_ok {e : Expr} {env : Env} (h : noSet e = true) (x : Value) : foldedSetIterable e env x = pure x := by
  cases e <;> first | rfl | cases h
theorem base_ok {o : Expr} {attr : Str} {env : Env} (h : noCall0 o = true) (whole : Sem Value) : attributeBase o attr env whole = whole := by
  cases o with
  | Call f as ks p =>
    cases f <;> first
      | rfl
      | (cases as <;> cases ks <;> first | rfl | cases h)
  | _ => rfl
theorem test_ok {e : Expr} {env : Env} (h : valTest e = true) (whole : Sem Value) : isTrue e env whole = (do let v ← whole; standAt e.pos; holding [v] (truthy v)) := by
  cases e <;> first | rfl | cases h
theorem wE_exc {x : Expr} {cl : String} {S' : St} {μ : Nat → Addr} {R : Hp} {n : Nat} : True := trivial

/-! ### expressions -/
theorem s_var (A : Amb X T ca.ca c cw) (F : Fit X sc) {i : Nat} {x : Str} {p : Pos} (h1 : slotB sc i x = true) (h2 : visB sc.sc x = true) : SE X ca cw (.Name x p) (evE c ev (.v i)) ev := by
  intro S μ H R σ Q L G h
  obtain ⟨e1, e2, e3, _⟩ := F.slot h1
  simp only [evE] at h
  split at h
  · rename_i w e
    obtain ⟨v, h3, r⟩ := G.get e
    exact wE_of (pe_var e1 (F.vis h2) e2 e3) ⟨v, h3, grow0 h L r⟩
  · exact False.elim h
theorem s_con {d : PyData} {k : Const} {j : Nat} {p : Pos} (h1 : conB d k = true) : SE X ca cw (.Constant k j p) (evE c ev (.k d)) ev := by
  intro S μ H R σ Q L G h
  simp only [evE] at h
  split at h
  · unfold conB at h1
    split at h1
    · exact wE_of pe_non (grow0 h L (.d .non))
    · rw [beq_iff_eq.mp h1] at h
      exact wE_of pe_bl (grow0 h L (.d (.bl _)))
    · rw [of_decide_eq_true h1] at h
      exact wE_of pe_int (grow0 h L (.d (.int _)))
    · rw [of_decide_eq_true h1] at h
      exact wE_of pe_str (grow0 h L (.d (.str _)))
    · cases h1
  · exact False.elim h
theorem s_glob (A : Amb X T ca.ca c cw) (F : Fit X sc) {n : String} {x : Str} {p : Pos} (h1 : x = Str.ofString n) (h2 : glB sc.sc x = true) (h3 : plainN x = true) : SE X ca cw (.Name x p) (evE c ev (.g n)) ev := by
  intro S μ H R σ Q L G h
  simp only [evE] at h
  split at h
  · rename_i d e
    obtain ⟨v, u, e1, r, dv⟩ := A.glb n d e
    exact wE_of (pe_glob (F.gl h2) (by rw [h1]; exact e1) r (plain_ok h3).1) (grow0 h L (.d (dv.up R)))
  · exact False.elim h
theorem s_tup {es : List E} {xs : List Expr} {k : Nat} {p : Pos} (ih : SA X ca cw xs (evEs c ev es) ev) : SE X ca cw (.Tuple xs k p) (evE c ev (.tup es)) ev := by
  intro S μ H R σ Q L G h
  simp only [evE] at h
  rw [Res.post_bind] at h
  refine wE_of (pe_tup (pa xs)) (ih S μ H R σ _ L G (Res.post_mono h (fun ws S1 q => ?_) fun _ _ q => q))
  intro μ1 H1 R1 vs g L1 r
  split at q
  · rename_i hl
    rw [r.length] at hl
    refine ⟨hl, fun a ha => ?_⟩
    obtain ⟨L2, g2⟩ := L1.newD (h := .tup vs) ha
    exact q μ1 _ _ _ (g.trans g2) L2 (mkTup_rv upd_same (r.mono g2))
  · exact False.elim q
theorem s_lst {f : Bool} {es : List E} {xs : List Expr} {p : Pos} (ih : SA X ca cw xs (evEs c ev es) ev) : SE X ca cw (.List xs p) (evE c ev (.lst f es)) ev := by
  intro S μ H R σ Q L G h
  simp only [evE] at h
  rw [Res.post_bind] at h
  refine wE_of (pe_lst (pa xs)) (ih S μ H R σ _ L G (Res.post_mono h (fun ws S1 q => ?_) fun _ _ q => q))
  intro μ1 H1 R1 vs g L1 r
  have hl : vs.length ≤ sizeLine := by
    unfold Py.mkL at q
    split at q
    · rename_i hl
      rw [← r.length]
      exact hl
    · exact False.elim q
  refine ⟨hl, fun a ha => ?_⟩
  obtain ⟨_, w, S', μ', R', q, g2, L', rw'⟩ := L1.mkL ha r q
  exact q μ' _ R' _ (g.trans g2) L' rw'
theorem s_dK {p : Pos} : SE X ca cw (.Dict [] [] p) (evE c ev .dK) ev := by
  intro S μ H R σ Q L G h
  simp only [evE] at h
  refine wE_of pe_dnewK fun a ha => ?_
  have r : RV X.K (ext μ S.n a) (S.push (.dK [])).n R (.ref S.n) (.ref (ext μ S.n a S.n)) := .ref (Nat.lt_succ_self _)
  rw [ext_same] at r
  exact h _ _ R _ (L.grow_push a) (L.newS ha (.dK .nil)) r
theorem s_dT {p : Pos} : SE X ca cw (.Dict [] [] p) (evE c ev .dT) ev := by
  intro S μ H R σ Q L G h
  simp only [evE] at h
  refine wE_of pe_dnewT fun a ha => ?_
  have r : RV X.K (ext μ S.n a) (S.push (.dT [])).n R (.ref S.n) (.ref (ext μ S.n a S.n)) := .ref (Nat.lt_succ_self _)
  rw [ext_same] at r
  exact h _ _ R _ (L.grow_push a) (L.newS ha (.dT .nil)) r
/-- two operands, then an operation -/
theorem two {x y : Expr} {ma mb : M W} {g : W → W → M W} (ia : SE X ca cw x ma ev) (ib : SE X ca cw y mb ev) {S : St} {μ : Nat → Addr} {H R : Hp} {σ : L2.St} {Q : VK} (L : Lay X.K ca S μ H R) (G : REnv X.K μ S.n R ev σ)
    (h : ((ma S).bind fun w S => (mb S).bind fun z S => g w z S).post (PQ X.K ca μ S.n R Q) (XQ X.K ca μ S.n R cw)) {k : V → V → Hp → Prop}
    (hk : ∀ (S2 : St) (μ2 : Nat → Addr) (H2 R2 : Hp) (w z : W) (v u : V), Grow μ S.n R μ2 S2.n R2 → Lay X.K ca S2 μ2 H2 R2 → RV X.K μ2 S2.n R2 w v → RV X.K μ2 S2.n R2 z u → (g w z S2).post (PQ X.K ca μ2 S2.n R2 Q) (XQ X.K ca μ2 S2.n R2 cw) → k v u H2) :
    wE X x σ H fun v H1 => wE X y σ H1 fun u H2 => k v u H2 := by
  rw [Res.post_bind] at h
  refine ia S μ H R σ _ L G (Res.post_mono h (fun w S1 q => ?_) fun _ _ q => q)
  intro μ1 H1 R1 v g1 L1 r1
  rw [Res.post_bind] at q
  refine ib S1 μ1 H1 R1 σ _ L1 (G.mono g1) (Res.post_mono q (fun z S2 q2 => ?_) fun _ _ q2 => XQ.grow g1 q2)
  intro μ2 H2 R2 u g2 L2 r2
  exact hk S2 μ2 H2 R2 w z v u (g1.trans g2) L2 (r1.mono g2) r2 (Res.post_mono q2 (fun _ _ z => PQ.grow (g1.trans g2) z) fun _ _ z => XQ.grow (g1.trans g2) z)
theorem one {x : Expr} {ma : M W} {g : W → M W} (ia : SE X ca cw x ma ev) {S : St} {μ : Nat → Addr} {H R : Hp} {σ : L2.St} {Q : VK} (L : Lay X.K ca S μ H R) (G : REnv X.K μ S.n R ev σ)
    (h : ((ma S).bind fun w S => g w S).post (PQ X.K ca μ S.n R Q) (XQ X.K ca μ S.n R cw)) {k : V → Hp → Prop}
    (hk : ∀ (S2 : St) (μ2 : Nat → Addr) (H2 R2 : Hp) (w : W) (v : V), Grow μ S.n R μ2 S2.n R2 → Lay X.K ca S2 μ2 H2 R2 → RV X.K μ2 S2.n R2 w v → (g w S2).post (PQ X.K ca μ2 S2.n R2 Q) (XQ X.K ca μ2 S2.n R2 cw) → k v H2) :
    wE X x σ H fun v H1 => k v H1 := by
  rw [Res.post_bind] at h
  refine ia S μ H R σ _ L G (Res.post_mono h (fun w S1 q => ?_) fun _ _ q => q)
  intro μ1 H1 R1 v g1 L1 r1
  exact hk S1 μ1 H1 R1 w v g1 L1 r1 (Res.post_mono q (fun _ _ z => PQ.grow g1 z) fun _ _ z => XQ.grow g1 z)
/-- the greatest reading of an operation on values -/
def wOp (X : Cx) (f : Value → Value → Sem Value) : R2 := fun x y H Q => ∀ (pins : List (Addr × Obj)) (s : Shared) (σ : L2.St) (v u : Value), Inv X pins σ H s → RelV x v → RelV y u → wpAny (model X.prog X.w) X.A (f v u) (EP X pins σ Q) X.xe s
theorem opr (f : Value → Value → Sem Value) : OpR X f (wOp X f) := fun pins s σ H x y v u Q I rx ry h => h pins s σ v u I rx ry
def wIx (X : Cx) (value slice : Expr) : R2 := fun x y H Q => ∀ (pins : List (Addr × Obj)) (s : Shared) (σ : L2.St) (v u : Value), Inv X pins σ H s → RelV x v → RelV y u → wpAny (model X.prog X.w) X.A (subscriptTail value slice v u) (EP X pins σ Q) X.xe s
def wCall (X : Cx) (f : Value) : List V → Hp → VK → Prop := fun xs H Q => ∀ (pins : List (Addr × Obj)) (s : Shared) (σ : L2.St) (us : List Value), Inv X pins σ H s → Vals xs us → wpAny (model X.prog X.w) X.A (call f us) (EP X pins σ Q) X.xe s
theorem callr (f : Value) : CallR X f (wCall X f) := fun pins s σ H xs us Q I r h => h pins s σ us I r
theorem s_bin {f : Bool} {op : B} {a b : E} {x y : Expr} {p : Pos} (ia : SE X ca cw x (evE c ev a) ev) (ib : SE X ca cw y (evE c ev b) ev) : SE X ca cw (.BinOp x (bop op) y p) (evE c ev (.bin f op a b)) ev := by
  intro S μ H R σ Q L G h
  simp only [evE] at h
  exact wE_of (pe_op (opr _) (pe x) (pe y)) (two ia ib L G h fun S2 μ2 H2 R2 w z v u g L2 r1 r2 q pins s σ2 v' u' I rv ru => ops_bin f op pins s σ2 H2 v' u' S2 μ2 R2 w z v u Q _ I rv ru L2 r1 r2 q)
theorem s_neg {a : E} {x : Expr} {p : Pos} (ia : SE X ca cw x (evE c ev a) ev) : SE X ca cw (.UnaryOp .USub x p) (evE c ev (.neg a)) ev := by
  intro S μ H R σ Q L G h
  simp only [evE] at h
  refine wE_of (pe_un un_neg (pe x)) (one ia L G h fun S2 μ2 H2 R2 w v g L2 r q => ?_)
  split at q
  · rename_i i
    have e := r.int
    subst e
    exact ⟨i, rfl, grow0 q L2 (.d (.int _))⟩
  · exact False.elim q
theorem s_cmp (A : Amb X T ca.ca c cw) {op : C} {a b : E} {x y : Expr} {p : Pos} (hm : behindInMarks (cop op) y = false) (ia : SE X ca cw x (evE c ev a) ev) (ib : SE X ca cw y (evE c ev b) ev) :
    SE X ca cw (.Compare x [cop op] [y] p) (evE c ev (.cmp op a b)) ev := by
  intro S μ H R σ Q L G h
  simp only [evE] at h
  exact wE_of (pe_cmpR (opr _) (pe x) (pe y) hm) (two ia ib L G h fun S2 μ2 H2 R2 w z v u g L2 r1 r2 q pins s σ2 v' u' I rv ru => ops_cmp A.hu op pins s σ2 H2 v' u' S2 μ2 R2 w z v u Q _ I rv ru L2 r1 r2 q)
theorem s_not {a : E} {x : Expr} {p : Pos} (ia : SE X ca cw x (evE c ev a) ev) : SE X ca cw (.UnaryOp .Not x p) (evE c ev (.not a)) ev := by
  intro S μ H R σ Q L G h
  simp only [evE] at h
  refine wE_of (pe_not (pe x)) (one ia L G h fun S2 μ2 H2 R2 w v g L2 r q => ?_)
  split at q
  · rename_i i
    have e := r.bl
    subst e
    exact ⟨i, rfl, grow0 q L2 (.d (.bl _))⟩
  · exact False.elim q
theorem s_and {a b : E} {x y : Expr} {r : List Expr} {p : Pos} (ia : SE X ca cw x (evE c ev a) ev) (ib : SE X ca cw (.BoolOp .And (y :: r) p) (evE c ev b) ev) : SE X ca cw (.BoolOp .And (x :: y :: r) p) (evE c ev (.and a b)) ev := by
  intro S μ H R σ Q L G h
  simp only [evE] at h
  rw [Res.post_bind] at h
  refine wE_of (pe_and (pe x) (pe _)) (ia S μ H R σ _ L G (Res.post_mono h (fun w S1 q => ?_) fun _ _ q => q))
  intro μ1 H1 R1 v g1 L1 r1
  split at q
  · have e := r1.bl
    subst e
    exact ⟨true, rfl, iteT (ib S1 μ1 H1 R1 σ Q L1 (G.mono g1) (Res.post_mono q (fun _ _ z => PQ.grow g1 z) fun _ _ z => XQ.grow g1 z))⟩
  · have e := r1.bl
    subst e
    exact ⟨false, rfl, iteF (q μ1 H1 R1 _ g1 L1 (.d (.bl _)))⟩
  · exact False.elim q
theorem s_or {a b : E} {x y : Expr} {r : List Expr} {p : Pos} (ia : SE X ca cw x (evE c ev a) ev) (ib : SE X ca cw (.BoolOp .Or (y :: r) p) (evE c ev b) ev) : SE X ca cw (.BoolOp .Or (x :: y :: r) p) (evE c ev (.or a b)) ev := by
  intro S μ H R σ Q L G h
  simp only [evE] at h
  rw [Res.post_bind] at h
  refine wE_of (pe_or (pe x) (pe _)) (ia S μ H R σ _ L G (Res.post_mono h (fun w S1 q => ?_) fun _ _ q => q))
  intro μ1 H1 R1 v g1 L1 r1
  split at q
  · have e := r1.bl
    subst e
    exact ⟨false, rfl, iteF (ib S1 μ1 H1 R1 σ Q L1 (G.mono g1) (Res.post_mono q (fun _ _ z => PQ.grow g1 z) fun _ _ z => XQ.grow g1 z))⟩
  · have e := r1.bl
    subst e
    exact ⟨true, rfl, iteT (q μ1 H1 R1 _ g1 L1 (.d (.bl _)))⟩
  · exact False.elim q
theorem s_bone {o : BoolOp} {a : M W} {x : Expr} {p : Pos} (ia : SE X ca cw x a ev) : SE X ca cw (.BoolOp o [x] p) a ev := by
  intro S μ H R σ Q L G h
  exact wE_of (pe_one (pe x)) (ia S μ H R σ Q L G h)
theorem s_ite {t : Tst} {a b : E} {x y z : Expr} {p : Pos} (it : ST X ca cw x (evT c ev t) ev) (ia : SE X ca cw y (evE c ev a) ev) (ib : SE X ca cw z (evE c ev b) ev) : SE X ca cw (.IfExp x y z p) (evE c ev (.ite t a b)) ev := by
  intro S μ H R σ Q L G h
  simp only [evE] at h
  rw [Res.post_bind] at h
  refine wE_of (pe_ifExp (pt x) (pe y) (pe z)) (it S μ H R σ _ L G (Res.post_mono h (fun w S1 q => ?_) fun _ _ q => q))
  intro μ1 H1 R1 g1 L1
  cases w with
  | true => exact iteT (ia S1 μ1 H1 R1 σ Q L1 (G.mono g1) (Res.post_mono q (fun _ _ z => PQ.grow g1 z) fun _ _ z => XQ.grow g1 z))
  | false => exact iteF (ib S1 μ1 H1 R1 σ Q L1 (G.mono g1) (Res.post_mono q (fun _ _ z => PQ.grow g1 z) fun _ _ z => XQ.grow g1 z))
theorem s_ix (A : Amb X T ca.ca c cw) {a i : E} {x y : Expr} {p : Pos} (hs : noSlice y = true) (ia : SE X ca cw x (evE c ev a) ev) (ib : SE X ca cw y (evE c ev i) ev) : SE X ca cw (.Subscript x y p) (evE c ev (.ix a i)) ev := by
  intro S μ H R σ Q L G h
  simp only [evE] at h
  have key : PE X (.Subscript x y p) (tOp (wIx X x y) (wE X x) (wE X y)) := ⟨fun pins s σ H Q I h => Subscript_ (binT (pe x) (pe y) I h fun v u s2 x' y' H2 I2 rx ry q => q pins s2 σ v u I2 rx ry)⟩
  exact wE_of key (two ia ib L G h fun S2 μ2 H2 R2 w z v u g L2 r1 r2 q pins s σ2 v' u' I rv ru => ops_ix A.hu x y pins s σ2 H2 v' u' S2 μ2 R2 w z v u Q _ I rv ru L2 r1 r2 q (slice_ok hs _ _))
theorem s_fld (A : Amb X T ca.ca c cw) {a : E} {f : String} {x : Expr} {p : Pos} (hc : noCall0 x = true) (ia : SE X ca cw x (evE c ev a) ev) : SE X ca cw (.Attribute x (Str.ofString f) p) (evE c ev (.fld a f)) ev := by
  intro S μ H R σ Q L G h
  simp only [evE] at h
  refine wE_of (pe_fld (pe x) (base_ok hc _)) (one ia L G h fun S2 μ2 H2 R2 w v g L2 r q => ?_)
  unfold fldM at q
  split at q
  · rename_i i
    obtain ⟨e, _⟩ := r.rf
    subst e
    split at q
    · rename_i cl fs e'
      obtain ⟨ho, e1, ho2⟩ := L2.hol i _ e'
      split at q
      · rename_i hf
        obtain ⟨w', e2, q⟩ := okW_post q
        obtain ⟨c1, c2⟩ := A.fls cl f hf
        cases ho2 with
        | ins rf =>
          have z := rf.look (f := f)
          rw [e2] at z
          cases e3 : List.lookup (Str.ofString f) _ with
          | none => rw [e3] at z; cases z
          | some vw =>
            rw [e3] at z
            cases z with
            | some z => exact ⟨_, _, _, _, vw, rfl, e1, c1, c2, e3, grow0 q L2 z⟩
      · exact False.elim q
    · exact False.elim q
  · exact False.elim q
end
end Py

/-! Snd2: soundness, construct by construct, further. -/
namespace Py
open PySem PySem.Spec PyProof.Rows L2
open Evl (Ex ex_l ex_t ex_rd fresh_back)

section
variable {X : Cx} {T : Tab} {ca : CF} {c : Cfg} {cw : String → Hp → Prop} {ev : Ev} {sc : SC}
theorem s_chain (A : Amb X T ca.ca c cw) {op op' : C} {a b d : E} {x y z : Expr} {p : Pos} (hm : lastMarks [cop op, cop op'] [y, z] = false) (ia : SE X ca cw x (evE c ev a) ev) (ib : SE X ca cw y (evE c ev b) ev) (id : SE X ca cw z (evE c ev d) ev) :
    SE X ca cw (.Compare x [cop op, cop op'] [y, z] p) (evE c ev (.chain op op' a b d)) ev := by
  intro S μ H R σ Q L G h
  simp only [evE] at h
  refine wE_of (pe_chain (opr _) (opr _) (pe x) (pe y) (pe z) hm) (two ia ib L G h fun S2 μ2 H2 R2 w u v1 v2 g L2 r1 r2 q pins s σ2 v' u' I rv ru => ?_)
  rw [Res.post_bind] at q
  refine ops_cmp A.hu op pins s σ2 H2 v' u' S2 μ2 R2 w u v1 v2 _ (XQ X.K ca μ2 S2.n R2 cw) I rv ru L2 r1 r2 (Res.post_mono q (fun r S3 q3 => ?_) fun _ _ q => q)
  intro μ3 H3 R3 vr g3 L3 rr
  split at q3
  · have e := rr.bl
    subst e
    refine ⟨true, rfl, iteT ?_⟩
    rw [Res.post_bind] at q3
    refine id S3 μ3 H3 R3 σ _ L3 ((G.mono g).mono g3) (Res.post_mono q3 (fun w4 S4 q4 => ?_) fun _ _ z => XQ.grow g3 z)
    intro μ4 H4 R4 v4 g4 L4 r4 pins s σ4 v'' u'' I'' rv'' ru''
    exact ops_cmp A.hu op' pins s σ4 H4 v'' u'' S4 μ4 R4 u w4 v2 v4 Q (XQ X.K ca μ4 S4.n R4 cw) I'' rv'' ru'' L4 ((r2.mono g3).mono g4) r4
      (Res.post_mono q4 (fun _ _ z => PQ.grow (g3.trans g4) z) fun _ _ z => XQ.grow (g3.trans g4) z)
  · have e := rr.bl
    subst e
    exact ⟨false, rfl, iteF (q3 μ3 H3 R3 _ g3 L3 (.d (.bl _)))⟩
  · exact False.elim q3
/-! ### lists of expressions, parts, tests -/
theorem sa_nil : SA X ca cw [] (evEs c ev []) ev := by
  intro S μ H R σ Q L G h
  simp only [evEs] at h
  exact wA_of pa_nil (h μ H R [] (Grow.refl _ _ _) L .nil)
theorem sa_cons {a : E} {r : List E} {x : Expr} {q : List Expr} (hs : noStar x = true) (ia : SE X ca cw x (evE c ev a) ev) (ir : SA X ca cw q (evEs c ev r) ev) : SA X ca cw (x :: q) (evEs c ev (a :: r)) ev := by
  intro S μ H R σ Q L G h
  simp only [evEs] at h
  rw [Res.post_bind] at h
  refine wA_of (pa_cons (pe x) (pa q) (star_ok hs)) (ia S μ H R σ _ L G (Res.post_mono h (fun w S1 q => ?_) fun _ _ q => q))
  intro μ1 H1 R1 v g1 L1 r1
  rw [Res.post_bind] at q
  refine ir S1 μ1 H1 R1 σ _ L1 (G.mono g1) (Res.post_mono q (fun ws S2 q2 => ?_) fun _ _ q => XQ.grow g1 q)
  intro μ2 H2 R2 vs g2 L2 r2
  exact q2 μ2 H2 R2 _ (g1.trans g2) L2 (.cons (r1.mono g2) r2)
theorem so_none : SO X ca cw none (evO c ev none) ev := by
  intro S μ H R σ Q L G h
  simp only [evO] at h
  exact wO_of po_none (h μ H R (Grow.refl _ _ _) L)
theorem so_some {a : E} {x : Expr} (ia : SE X ca cw x (evE c ev a) ev) : SO X ca cw (some x) (evO c ev (some a)) ev := by
  intro S μ H R σ Q L G h
  simp only [evO] at h
  rw [Res.post_bind] at h
  refine wO_of (po_some (pe x)) (ia S μ H R σ _ L G (Res.post_mono h (fun w S1 q => ?_) fun _ _ q => q))
  intro μ1 H1 R1 v g1 L1 r1
  split at q
  · have ev := r1.int
    subst ev
    exact ⟨_, rfl, q μ1 H1 R1 g1 L1⟩
  · exact False.elim q
theorem st_val {a : E} {x : Expr} (hv : valTest x = true) (ia : SE X ca cw x (evE c ev a) ev) : ST X ca cw x (evT c ev (.e a)) ev := by
  intro S μ H R σ Q L G h
  simp only [evT] at h
  rw [Res.post_bind] at h
  refine wT_of (pt_truth (pe x) (test_ok hv)) (ia S μ H R σ _ L G (Res.post_mono h (fun w S1 q => ?_) fun _ _ q => q))
  intro μ1 H1 R1 v g1 L1 r1
  split at q
  · rename_i b e
    exact ⟨b, ops_tru L1 r1 e, q μ1 H1 R1 g1 L1⟩
  · exact False.elim q
/-- a comparison's value is a truth -/
theorem cmp_bool {op : C} {x y : W} {S : St} {P : W → St → Prop} {E : String → St → Prop} (h : (cmpM op x y S).post P E) : ∃ b, P (.d (.bool b)) S := by
  have ob : ∀ {o : Option Bool}, (okB S o).post P E → ∃ b, P (.d (.bool b)) S := fun h => let ⟨b, _, q⟩ := okB_post h; ⟨b, q⟩
  unfold cmpM at h
  cases op with
  | eq => exact ob h
  | ne => exact ob h
  | in_ => exact ob h
  | nin => exact ob h
  | isN =>
    dsimp only at h
    split at h
    · exact ⟨_, h⟩
    · exact ob h
  | notN =>
    dsimp only at h
    split at h
    · exact ⟨_, h⟩
    · exact ob h
  | lt =>
    dsimp only at h
    split at h
    · exact ⟨_, h⟩
    · exact ⟨_, h⟩
    · exact False.elim h
  | le =>
    dsimp only at h
    split at h
    · exact ⟨_, h⟩
    · exact False.elim h
  | gt =>
    dsimp only at h
    split at h
    · exact ⟨_, h⟩
    · exact False.elim h
  | ge =>
    dsimp only at h
    split at h
    · exact ⟨_, h⟩
    · exact False.elim h
theorem cmp_eq {op : C} {x y : W} {S : St} : (∃ b, cmpM op x y S = .ok (.d (.bool b)) S) ∨ cmpM op x y S = .fail := by
  have ob : ∀ {o : Option Bool}, (∃ b, okB S o = .ok (.d (.bool b)) S) ∨ okB S o = .fail := fun {o} => by
    cases o with
    | none => exact .inr rfl
    | some b => exact .inl ⟨b, rfl⟩
  unfold cmpM
  cases op with
  | eq => exact ob
  | ne => exact ob
  | in_ => exact ob
  | nin => exact ob
  | isN =>
    dsimp only
    split
    · exact .inl ⟨_, rfl⟩
    · exact ob
  | notN =>
    dsimp only
    split
    · exact .inl ⟨_, rfl⟩
    · exact ob
  | lt =>
    dsimp only
    split
    · exact .inl ⟨_, rfl⟩
    · exact .inl ⟨_, rfl⟩
    · exact .inr rfl
  | le =>
    dsimp only
    split
    · exact .inl ⟨_, rfl⟩
    · exact .inr rfl
  | gt =>
    dsimp only
    split
    · exact .inl ⟨_, rfl⟩
    · exact .inr rfl
  | ge =>
    dsimp only
    split
    · exact .inl ⟨_, rfl⟩
    · exact .inr rfl
/-- a test by a value that is a truth -/
theorem tru_of {S : St} {μ : Nat → Addr} {R : Hp} {Q : Bool → Hp → Prop} {m : Res W} (h : (m.bind fun x S => match truD S x with
    | some b => Res.ok b S
    | none => .fail).post (PQb X.K ca μ S.n R Q) (XQ X.K ca μ S.n R cw)) : m.post (fun x S' => ∃ b, truD S' x = some b ∧ PQb X.K ca μ S.n R Q b S') (XQ X.K ca μ S.n R cw) := by
  rw [Res.post_bind] at h
  refine Res.post_mono h (fun x S1 q => ?_) fun _ _ q => q
  split at q
  · rename_i b e
    exact ⟨b, e, q⟩
  · exact False.elim q
theorem st_cmp (A : Amb X T ca.ca c cw) {op : C} {a b : E} {x y : Expr} {p : Pos} (hm : behindInMarks (cop op) y = false) (ia : SE X ca cw x (evE c ev a) ev) (ib : SE X ca cw y (evE c ev b) ev) :
    ST X ca cw (.Compare x [cop op] [y] p) (evT c ev (.e (.cmp op a b))) ev := by
  intro S μ H R σ Q L G h
  simp only [evT] at h
  have h := tru_of h
  have k := s_cmp (p := p) A hm ia ib
  -- the same by the reading of a comparison as a test
  simp only [evE] at h
  rw [Res.post_bind] at h
  refine wT_of (pt_cmpR (opr _) (pe x) (pe y) hm) (ia S μ H R σ _ L G (Res.post_mono h (fun w S1 q => ?_) fun _ _ q => q))
  intro μ1 H1 R1 v g1 L1 r1
  rw [Res.post_bind] at q
  refine ib S1 μ1 H1 R1 σ _ L1 (G.mono g1) (Res.post_mono q (fun z S2 q2 => ?_) fun _ _ q2 => XQ.grow g1 q2)
  intro μ2 H2 R2 u g2 L2 r2 pins s σ2 v' u' I rv ru
  rcases cmp_eq (op := op) (x := w) (y := z) (S := S2) with ⟨b', e'⟩ | e'
  · rw [e'] at q2
    obtain ⟨b2, e2, q2⟩ := q2
    cases e2
    refine ops_cmp A.hu op pins s σ2 H2 v' u' S2 μ2 R2 w z v u _ (XQ X.K ca μ S.n R cw) I rv ru L2 (r1.mono g2) r2 ?_
    rw [e']
    intro μ3 H3 R3 vr g3 L3 rr
    have e := rr.bl
    subst e
    exact ⟨_, rfl, q2 μ3 H3 R3 (g1.trans (g2.trans g3)) L3⟩
  · rw [e'] at q2
    exact False.elim q2
theorem st_chain (A : Amb X T ca.ca c cw) {op op' : C} {a b d : E} {x y z : Expr} {p : Pos} (hm : lastMarks [cop op, cop op'] [y, z] = false) (ia : SE X ca cw x (evE c ev a) ev) (ib : SE X ca cw y (evE c ev b) ev) (id : SE X ca cw z (evE c ev d) ev) :
    ST X ca cw (.Compare x [cop op, cop op'] [y, z] p) (evT c ev (.e (.chain op op' a b d))) ev := by
  intro S μ H R σ Q L G h
  simp only [evT] at h
  have h := tru_of h
  simp only [evE] at h
  rw [Res.post_bind] at h
  refine wT_of (pt_chain (opr _) (opr _) (pe x) (pe y) (pe z) hm) (ia S μ H R σ _ L G (Res.post_mono h (fun w S1 q => ?_) fun _ _ q => q))
  intro μ1 H1 R1 v g1 L1 r1
  rw [Res.post_bind] at q
  refine ib S1 μ1 H1 R1 σ _ L1 (G.mono g1) (Res.post_mono q (fun u S2 q2 => ?_) fun _ _ q2 => XQ.grow g1 q2)
  intro μ2 H2 R2 v2 g2 L2 r2 pins s σ2 v' u' I rv ru
  have g12 := g1.trans g2
  rw [Res.post_bind] at q2
  rcases cmp_eq (op := op) (x := w) (y := u) (S := S2) with ⟨b', e'⟩ | e'
  · rw [e'] at q2
    refine ops_cmp A.hu op pins s σ2 H2 v' u' S2 μ2 R2 w u v v2 _ (XQ X.K ca μ S.n R cw) I rv ru L2 (r1.mono g2) r2 ?_
    rw [e']
    intro μ3 H3 R3 vr g3 L3 rr
    have e := rr.bl
    subst e
    refine ⟨b', rfl, ?_⟩
    cases b' with
    | true =>
      refine iteT ?_
      have q2 : ((evE c ev d S2).bind fun z S => cmpM op' u z S).post _ _ := q2
      rw [Res.post_bind] at q2
      refine id S2 μ3 H3 R3 σ _ L3 ((G.mono g12).mono g3) (Res.post_mono q2 (fun w4 S4 q4 => ?_) fun _ _ z => XQ.grow (g12.trans g3) z)
      intro μ4 H4 R4 v4 g4 L4 r4 pins s σ4 v'' u'' I'' rv'' ru''
      rcases cmp_eq (op := op') (x := u) (y := w4) (S := S4) with ⟨b4, e4⟩ | e4
      · rw [e4] at q4
        obtain ⟨b2, e2, q4⟩ := q4
        cases e2
        refine ops_cmp A.hu op' pins s σ4 H4 v'' u'' S4 μ4 R4 u w4 v2 v4 _ (XQ X.K ca μ S.n R cw) I'' rv'' ru'' L4 ((r2.mono g3).mono g4) r4 ?_
        rw [e4]
        intro μ5 H5 R5 vr g5 L5 rr
        have e := rr.bl
        subst e
        exact ⟨_, rfl, q4 μ5 H5 R5 (g12.trans (g3.trans (g4.trans g5))) L5⟩
      · rw [e4] at q4
        exact False.elim q4
    | false =>
      refine iteF ?_
      have q2 : ∃ b, truD S2 (.d (.bool false)) = some b ∧ PQb X.K ca μ S.n R Q b S2 := q2
      obtain ⟨b2, e2, q2⟩ := q2
      cases e2
      exact ⟨false, rfl, q2 μ3 H3 R3 (g12.trans g3) L3⟩
  · rw [e'] at q2
    exact False.elim q2
theorem pw_bool {o : BoolOp} {xs : List Expr} {p : Pos} : PW X (.BoolOp o xs p) (wT X (.BoolOp o xs p)) := ⟨fun whole pins s σ H Q I h => h pins s I⟩
theorem st_and {a b : Tst} {x y : Expr} {r : List Expr} {p : Pos} (ia : ST X ca cw x (evT c ev a) ev) (ib : ST X ca cw (.BoolOp .And (y :: r) p) (evT c ev b) ev) : ST X ca cw (.BoolOp .And (x :: y :: r) p) (evT c ev (.and a b)) ev := by
  intro S μ H R σ Q L G h
  simp only [evT] at h
  rw [Res.post_bind] at h
  refine wT_of (PW.pt (pw_and (pt x) pw_bool)) (ia S μ H R σ _ L G (Res.post_mono h (fun w S1 q => ?_) fun _ _ q => q))
  intro μ1 H1 R1 g1 L1
  cases w with
  | true => exact iteT (ib S1 μ1 H1 R1 σ Q L1 (G.mono g1) (Res.post_mono q (fun _ _ z => PQb.grow g1 z) fun _ _ z => XQ.grow g1 z))
  | false => exact iteF (q μ1 H1 R1 g1 L1)
theorem st_or {a b : Tst} {x y : Expr} {r : List Expr} {p : Pos} (ia : ST X ca cw x (evT c ev a) ev) (ib : ST X ca cw (.BoolOp .Or (y :: r) p) (evT c ev b) ev) : ST X ca cw (.BoolOp .Or (x :: y :: r) p) (evT c ev (.or a b)) ev := by
  intro S μ H R σ Q L G h
  simp only [evT] at h
  rw [Res.post_bind] at h
  refine wT_of (PW.pt (pw_or (pt x) pw_bool)) (ia S μ H R σ _ L G (Res.post_mono h (fun w S1 q => ?_) fun _ _ q => q))
  intro μ1 H1 R1 g1 L1
  cases w with
  | false => exact iteF (ib S1 μ1 H1 R1 σ Q L1 (G.mono g1) (Res.post_mono q (fun _ _ z => PQb.grow g1 z) fun _ _ z => XQ.grow g1 z))
  | true => exact iteT (q μ1 H1 R1 g1 L1)
theorem st_one {o : BoolOp} {m : M Bool} {x : Expr} {p : Pos} (ia : ST X ca cw x m ev) : ST X ca cw (.BoolOp o [x] p) m ev := by
  intro S μ H R σ Q L G h
  cases o with
  | And => exact wT_of (PW.pt (pw_and1 (pt x))) (ia S μ H R σ Q L G h)
  | Or => exact wT_of (PW.pt (pw_or1 (pt x))) (ia S μ H R σ Q L G h)
theorem st_not {a : Tst} {x : Expr} {p : Pos} (ia : ST X ca cw x (evT c ev a) ev) : ST X ca cw (.UnaryOp .Not x p) (evT c ev (.not a)) ev := by
  intro S μ H R σ Q L G h
  simp only [evT] at h
  rw [Res.post_bind] at h
  exact wT_of (pt_not (pt x)) (ia S μ H R σ _ L G (Res.post_mono h (fun w S1 q μ1 H1 R1 g1 L1 => q μ1 H1 R1 g1 L1) fun _ _ q => q))
theorem sts_none : STs X ca cw [] (evOT c ev none) ev := by
  intro S μ H R σ Q L G h
  simp only [evOT] at h
  exact wTs_of pts_nil (h μ H R (Grow.refl _ _ _) L)
theorem sts_some {a : Tst} {x : Expr} (ia : ST X ca cw x (evT c ev a) ev) : STs X ca cw [x] (evOT c ev (some a)) ev := by
  intro S μ H R σ Q L G h
  simp only [evOT] at h
  exact wTs_of (pts_one (pt x)) (ia S μ H R σ Q L G h)
/-! ### slices -/
theorem s_sl {f : Bool} {a : E} {lo hi : Option E} {x : Expr} {l r : Option Expr} {p p2 : Pos} (ia : SE X ca cw x (evE c ev a) ev) (il : SO X ca cw l (evO c ev lo) ev) (ir : SO X ca cw r (evO c ev hi) ev) :
    SE X ca cw (.Subscript x (.Slice l r none p2) p) (evE c ev (.sl f a lo hi)) ev := by
  intro S μ H R σ Q L G h
  simp only [evE] at h
  have key : SlR X (fun x lo hi H Q => ∀ (pins : List (Addr × Obj)) (s : Shared) (σ : L2.St) (v vl vu : Value) (sl : Addr), Inv X pins σ H s → RelV x v → s.heap.IsSliceOf sl vl vu .none → IsPart vl lo → IsPart vu hi →
      ∃ T id, typeLookup (.type T) "__getitem__" = pure (some (.builtin id)) ∧ s.TypeIs v T ∧ wpAny (model X.prog X.w) X.A (getItem v (.ref sl)) (EP X pins σ Q) X.xe s) :=
    fun pins s σ H x v vl vu lo hi sl Q I rx hs pl pu q => q pins s σ v vl vu sl I rx hs pl pu
  rw [Res.post_bind] at h
  refine wE_of (pe_slice key (pe x) (po l) (po r)) (ia S μ H R σ _ L G (Res.post_mono h (fun w S1 q => ?_) fun _ _ q => q))
  intro μ1 H1 R1 v g1 L1 r1
  rw [Res.post_bind] at q
  refine il S1 μ1 H1 R1 σ _ L1 (G.mono g1) (Res.post_mono q (fun ol S2 q2 => ?_) fun _ _ q => XQ.grow g1 q)
  rw [Res.post_bind] at q2
  intro μ2 H2 R2 g2 L2
  refine ir S2 μ2 H2 R2 σ _ L2 ((G.mono g1).mono g2) (Res.post_mono q2 (fun oh S3 q3 => ?_) fun _ _ q => XQ.grow (g1.trans g2) q)
  intro μ3 H3 R3 g3 L3 pins s σ3 v3 vl vu sl I rv hsl pl pu
  exact ops_sl f pins s σ3 H3 v3 vl vu ol oh sl S3 μ3 R3 w v Q (XQ X.K ca μ S.n R cw) I rv L3 ((r1.mono g2).mono g3) (Res.post_mono q3 (fun _ _ z => PQ.grow (g1.trans (g2.trans g3)) z) fun _ _ q => q) hsl pl pu
end
end Py

/-! Snd3: soundness of calls. -/
namespace Py
open PySem PySem.Spec PyProof.Rows L2
open Evl (Ex ex_l ex_t ex_rd fresh_back)

def stars (xs : List Expr) : Bool := xs.all noStar
theorem stars_any {xs : List Expr} {env : Env} {pos : Pos} (h : stars xs = true) : (backTo pos (starEach xs env)).any (·.1) = false := by
  induction xs with
  | nil => rfl
  | cons x r ih =>
    unfold stars at h ih
    rw [List.all_cons, Bool.and_eq_true] at h
    rw [star_ok h.1]
    show (false || (backTo pos (starEach r env)).any (·.1)) = false
    rw [ih h.2]
    rfl
theorem stars_all {xs : List Expr} {env : Env} {pos : Pos} (h : stars xs = true) : (backTo pos (starEach xs env)).all (!·.1) = true := by
  induction xs with
  | nil => rfl
  | cons x r ih =>
    unfold stars at h ih
    rw [List.all_cons, Bool.and_eq_true] at h
    rw [star_ok h.1]
    show (true && (backTo pos (starEach r env)).all (!·.1)) = true
    rw [ih h.2]
    rfl
theorem few_ok {xs : List Expr} {env : Env} {pos : Pos} (h : stars xs = true) (hl : xs.length < 29) :
    ((backTo pos (starEach xs env)).all (fun x => !x.1) && (backToKw pos (keywordEach [] env)).all (fun x => x.1.isSome) && decide (xs.length + ([] : List Keyword).length + (if ([] : List Keyword).isEmpty then 0 else 1) < 30)) = true := by
  rw [stars_all h]
  show decide (xs.length + 0 + 0 < 30) = true
  exact decide_eq_true (by omega)
theorem meth_eval {o : Expr} {m : Str} {apos pos : Pos} {xs : List Expr} {env : Env} (hb : noCall0 o = true) (h : stars xs = true) (hl : xs.length < 29) (hp : (apos.endLine == pos.line) = true) :
    eval (.Call (.Attribute o m apos) xs [] pos) env = (do
      let ov ← eval o env
      standAt apos.atName
      let (f, first) ← holding [ov] (getMethod ov m (plainOf o env))
      callWith pos f first (backTo pos (starEach xs env)) (backToKw pos (keywordEach [] env))) := by
  rw [arm_eval_Call, base_ok hb]
  have hf : methodCallForm (xs.length + ([] : List Keyword).length) (backTo pos (starEach xs env)) (backToKw pos (keywordEach [] env)) = true := by
    unfold methodCallForm
    rw [stars_all h]
    show (true && true && decide (xs.length + 0 + 0 < 30)) = true
    rw [decide_eq_true (show xs.length + 0 + 0 < 30 by omega)]
    rfl
  congr 1
  funext ov
  congr 1
  funext _
  exact mcall_line hf hp
section
variable {X : Cx} {T : Tab} {ca : CF} {c : Cfg} {cw : String → Hp → Prop} {ev : Ev} {sc : SC}
theorem Lay.raise {K : KF} {S : St} {μ : Nat → Addr} {H R : Hp} (L : Lay K ca S μ H R) {p : Addr} {h : HO} (hp : H p = none) : Lay K ca S μ (upd H p h) R := by
  refine ⟨L.dom, L.inj, fun i o e => ?_, fun a u e => ?_, L.off, fun a u e => ?_⟩
  · obtain ⟨h', e', q⟩ := L.hol i o e
    exact ⟨h', by rw [upd_ne (ne_of_none e' hp)]; exact e', q⟩
  · have := L.sub a u e
    rw [upd_ne (ne_of_none this hp)]
    exact this
  · obtain ⟨f1, f2, f3⟩ := L.frm a u e
    exact ⟨by rw [upd_ne (ne_of_none f1 hp)]; exact f1, f2, f3⟩
/-- the promise, from the run -/
theorem sp_of {μ : Nat → Addr} {R : Hp} {n : Nat} {S1 : St} {μ1 : Nat → Addr} {H1 R1 : Hp} {key : String} {ws : List W} {vs : List V} {Q : VK} (g : Grow μ n R μ1 S1.n R1) (L : Lay X.K ca S1 μ1 H1 R1) (r : RVs X.K μ1 S1.n R1 ws vs)
    (h : (c.call key ws S1).post (PQ X.K ca μ n R Q) (XQ X.K ca μ n R cw)) : spF X.K ca.ca c.call key vs H1 Q (EX ca.ca cw) :=
  ⟨ws, S1, μ1, R1, ca.F, L, r, Res.post_mono h (fun _ _ z => PQ.grow g z) fun cl S2 z μ' H' R' g' L' => ⟨cl, rfl, rfl, z μ' H' R' (g.trans g') L'⟩⟩
theorem datas_eq : ∀ {a b : List PyData}, datasB a b = true → a = b
  | [], [], _ => rfl
  | [], _ :: _, h => by cases h
  | _ :: _, [], h => by cases h
  | x :: r, y :: q, h => by
    unfold datasB at h
    rw [Bool.and_eq_true] at h
    have e : x = y := by
      have h1 := h.1
      unfold dataB at h1
      split at h1
      · rw [of_decide_eq_true h1]
      · cases h1
    rw [e, datas_eq h.2]
theorem fill_ok {g : Sig} {o : Option Sig} {ds : List PyData} (ho : o = some g) (h : fillB o ds = true) : datasB (g.dfl.drop (g.dfl.length - ds.length)) ds = true ∧ ds.length ≤ g.dfl.length := by
  subst ho
  unfold fillB at h
  rw [Bool.and_eq_true] at h
  exact ⟨h.1, of_decide_eq_true h.2⟩
theorem nil_of {es : List E} (h : es.length = 0) : es = [] := List.length_eq_zero_iff.mp h
theorem s_call (A : Amb X T ca.ca c cw) (F : Fit X sc) {n : String} {es : List E} {ds : List PyData} {x : Str} {xs : List Expr} {p pos : Pos} (h1 : x = Str.ofString n) (h2 : glB sc.sc x = true) (h3 : plainN x = true) (h4 : T.own.contains n = false)
    (h5 : fillB (T.sig n) ds = true) (hst : stars xs = true) (hl : es.length = xs.length) (ih : SA X ca cw xs (evEs c ev es) ev) : SE X ca cw (.Call (.Name x p) xs [] pos) (evE c ev (.call n es ds)) ev := by
  intro S μ H R σ Q L G h
  simp only [evE] at h
  rw [Res.post_bind] at h
  cases hs : T.sig n with
  | none => rw [hs] at h5; cases h5
  | some g =>
    obtain ⟨f, m1, m2, ⟨fd, ps, k, FO, hr, hb⟩⟩ := A.call n g hs h4
    obtain ⟨f1, f2⟩ := fill_ok hs h5
    obtain ⟨dvs, us, d1, d2, d3⟩ := hb ds f1 f2
    have e := plain_ok h3
    rw [← h1] at m1
    cases xs with
    | nil =>
      have := nil_of hl
      subst this
      simp only [evEs] at h
      refine wE_of (pe_call0 FO (hr.mono (Nat.le_succ _)) (F.gl h2) m1 m2 d3 d2 A.px e.1) ?_
      exact sp_of (Grow.refl _ _ _) L (.of_d (d1.up R)) h
    | cons y ys =>
      unfold stars at hst
      rw [List.all_cons, Bool.and_eq_true] at hst
      refine wE_of (pe_call FO (hr.mono (Nat.le_succ _)) (F.gl h2) m1 m2 d3 d2 A.px (pa (y :: ys)) e.1 (star_ok hst.1) (stars_any hst.2)) ?_
      exact ih S μ H R σ _ L G (Res.post_mono h (fun ws S1 q μ1 H1 R1 vs g1 L1 r1 => sp_of g1 L1 (r1.append (.of_d (d1.up R1))) q) fun _ _ q => q)
theorem s_new (A : Amb X T ca.ca c cw) (F : Fit X sc) {n : String} {es : List E} {x : Str} {xs : List Expr} {p pos : Pos} (h1 : x = Str.ofString n) (h2 : glB sc.sc x = true) (h3 : plainN x = true)
    (hst : stars xs = true) (hl : es.length = xs.length) (ih : SA X ca cw xs (evEs c ev es) ev) : SE X ca cw (.Call (.Name x p) xs [] pos) (evE c ev (.new n es)) ev := by
  intro S μ H R σ Q L G h
  simp only [evE] at h
  cases hi : c.ini n with
  | none =>
    rw [hi] at h
    exact False.elim h
  | some m =>
    rw [hi] at h
    dsimp only at h
    rw [Res.post_bind] at h
    obtain ⟨f, g, hs, M, m1, ⟨fd, ps, k, FO, hr, hb⟩⟩ := A.ini n m hi
    obtain ⟨dvs, us, d1, d2, d3⟩ := hb [] (by simp [datasB]) (Nat.zero_le _)
    cases d1
    cases d2
    have e := plain_ok h3
    rw [← h1] at m1
    have key : ∀ {S1 : St} {μ1 : Nat → Addr} {H1 R1 : Hp} {ws : List W} {vs : List V}, Grow μ S.n R μ1 S1.n R1 → Lay X.K ca S1 μ1 H1 R1 → RVs X.K μ1 S1.n R1 ws vs →
        ((c.call m (.ref S1.n :: ws) (S1.push (.ins n []))).bind fun r S' => if isNone r = true then .ok (.ref S1.n) S' else .fail).post (PQ X.K ca μ S.n R Q) (XQ X.K ca μ S.n R cw) →
        ∀ x dx, H1 x = none → H1 dx = none → dx ≠ x → spF X.K ca.ca c.call m (.ref x :: (vs ++ [])) (upd (upd H1 dx (.own x)) x (.ins (ca.ca n) dx [])) (fun v H2 => v = .non ∧ Q (.ref x) H2) (EX ca.ca cw) := fun {S1 μ1 H1 R1 ws vs} g1 L1 r1 q x dx hx hdx hne => by
      rw [List.append_nil]
      have L2 := L1.raise (h := .own x) hdx
      have hx2 : (upd H1 dx (.own x)) x = none := by rw [upd_ne hne.symm]; exact hx
      have g2 := L2.grow_push x
      have L3 := L2.newS (o := .ins n []) (h := .ins (ca.ca n) dx []) hx2 (.ins .nil)
      have rx : RV X.K (ext μ1 S1.n x) (S1.push (.ins n [])).n R1 (.ref S1.n) (.ref (ext μ1 S1.n x S1.n)) := .ref (Nat.lt_succ_self _)
      have ex : ext μ1 S1.n x S1.n = x := ext_same
      rw [ex] at rx
      rw [Res.post_bind] at q
      refine ⟨.ref S1.n :: ws, S1.push (.ins n []), ext μ1 S1.n x, R1, ca.F, L3, .cons rx (r1.mono g2), Res.post_mono q (fun r S' z => ?_) fun cl S2 z μ' H' R' g' L' => ⟨cl, rfl, rfl, z μ' H' R' (g1.trans (g2.trans g')) L'⟩⟩
      intro μ' H' R' v g' L' rv
      split at z
      · rename_i hn
        have ev : v = .non := by
          cases rv with
          | d q => cases q <;> first | rfl | cases hn
          | _ => cases hn
        refine ⟨ev, ?_⟩
        have rx' := rx.mono g'
        exact z μ' H' R' _ (g1.trans (g2.trans g')) L' rx'
      · exact False.elim z
    cases xs with
    | nil =>
      have := nil_of hl
      subst this
      simp only [evEs] at h
      refine wE_of (pe_make0 M FO hr (F.gl h2) m1 d3 .nil A.px e.1) ?_
      exact key (Grow.refl _ _ _) L .nil h
    | cons y ys =>
      unfold stars at hst
      rw [List.all_cons, Bool.and_eq_true] at hst
      refine wE_of (pe_make M FO hr (F.gl h2) m1 d3 .nil A.px (pa (y :: ys)) e.1 (star_ok hst.1) (stars_any hst.2)) ?_
      exact ih S μ H R σ _ L G (Res.post_mono h (fun ws S1 q μ1 H1 R1 vs g1 L1 r1 => key g1 L1 r1 q) fun _ _ q => q)
end
end Py

/-! Snd4: soundness of methods, builtins, isinstance, freezing. -/
namespace Py
open PySem PySem.Spec PyProof.Rows L2
open Evl (Ex ex_l ex_t ex_rd fresh_back)

section
variable {X : Cx} {T : Tab} {ca : CF} {c : Cfg} {cw : String → Hp → Prop} {ev : Ev} {sc : SC}
theorem s_om (A : Amb X T ca.ca c cw) {a : E} {m : String} {es : List E} {ds : List PyData} {o : Expr} {xs : List Expr} {ap pos : Pos} (hb : noCall0 o = true) (hn : xs.length < 29) (hp : (ap.endLine == pos.line) = true)
    (h5 : ∀ k ∈ T.mkeys m, fillB (T.sig k) ds = true) (hst : stars xs = true) (hl : es.length = xs.length) (ia : SE X ca cw o (evE c ev a) ev) (ih : SA X ca cw xs (evEs c ev es) ev) :
    SE X ca cw (.Call (.Attribute o (Str.ofString m) ap) xs [] pos) (evE c ev (.om a m es ds)) ev := by
  intro S μ H R σ Q L G h
  simp only [evE] at h
  cases ha : evE c ev a S with
  | fail => rw [ha] at h; exact False.elim h
  | exc _ _ => rw [ha] at h; exact False.elim h
  | ok x S1 =>
    rw [ha] at h
    simp only [noExc, Res.bind] at h
    split at h
    · rename_i i
      split at h
      · rename_i cl fs eo
        split at h
        · rename_i key em
          split at h
          · rename_i hno
            obtain ⟨f, g, hs, hk, hC, hM, ⟨fd, ps, k, FO, hr, hbd⟩⟩ := A.mth cl m key em
            obtain ⟨f1, f2⟩ := fill_ok hs (h5 key hk)
            obtain ⟨dvs, us, d1, d2, d3⟩ := hbd ds f1 f2
            have h : ((evEs c ev es S1).bind fun ws S => c.call key (W.ref i :: (ws ++ ds.map W.d)) S).post (PQ X.K ca μ S.n R Q) (XQ X.K ca μ S.n R cw) := h
            rw [Res.post_bind] at h
            have rcv : ∀ {k : V → Hp → Prop}, (∀ (μ1 : Nat → Addr) (H1 R1 : Hp) (v : V), Grow μ S.n R μ1 S1.n R1 → Lay X.K ca S1 μ1 H1 R1 → RV X.K μ1 S1.n R1 (.ref i) v → k v H1) → wE X o σ H k := fun hk => ia S μ H R σ _ L G (by
              rw [ha]
              intro μ1 H1 R1 v g1 L1 r1
              exact hk μ1 H1 R1 v g1 L1 r1)
            have at_ : ∀ {μ1 : Nat → Addr} {H1 R1 : Hp}, Lay X.K ca S1 μ1 H1 R1 → ∃ dx hs, H1 (μ1 i) = some (.ins (ca.ca cl) dx hs) ∧ hs.lookup (Str.ofString m) = none := fun {μ1 H1 R1} L1 => by
              obtain ⟨ho, e1, q⟩ := L1.hol i _ eo
              cases q with
              | ins rf =>
                refine ⟨_, _, e1, ?_⟩
                have z := rf.look (f := m)
                have hno : fs.lookup m = none := by simpa using hno
                rw [hno] at z
                cases e3 : List.lookup (Str.ofString m) _ with
                | none => rfl
                | some vw => rw [e3] at z; cases z
            cases xs with
            | nil =>
              have := nil_of hl
              subst this
              simp only [evEs] at h
              refine wE_of (pe_meth0 (pl := plainOf o X.env) (pe o) hC hM FO (hr.mono (Nat.le_succ _)) d3 d2 A.px (meth_eval hb hst hn hp)) (rcv fun μ1 H1 R1 v g1 L1 r1 => ?_)
              obtain ⟨ev1, _⟩ := r1.rf
              subst ev1
              obtain ⟨dx, hs', e1, e2⟩ := at_ L1
              exact ⟨_, dx, hs', rfl, e1, e2, sp_of g1 L1 (.cons r1 (.of_d (d1.up R1))) h⟩
            | cons y ys =>
              have hst2 := hst
              unfold stars at hst2
              rw [List.all_cons, Bool.and_eq_true] at hst2
              refine wE_of (pe_meth (pl := plainOf o X.env) (pe o) hC hM FO (hr.mono (Nat.le_succ _)) d3 d2 A.px (pa (y :: ys)) (star_ok hst2.1) (stars_any hst2.2) (meth_eval hb hst hn hp)) (rcv fun μ1 H1 R1 v g1 L1 r1 => ?_)
              obtain ⟨ev1, _⟩ := r1.rf
              subst ev1
              obtain ⟨dx, hs', e1, e2⟩ := at_ L1
              refine ⟨_, dx, hs', rfl, e1, e2, ih S1 μ1 H1 R1 σ _ L1 (G.mono g1) (Res.post_mono h (fun ws S2 q μ2 H2 R2 vs g2 L2 r2 => ?_) fun _ _ q => XQ.grow g1 q)⟩
              exact sp_of (g1.trans g2) L2 (.cons (r1.mono g2) (r2.append (.of_d (d1.up R2)))) q
          · exact False.elim h
        · exact False.elim h
      · exact False.elim h
    · exact False.elim h
/-- a method of a builtin type, found where the receiver stands -/
theorem pe_bmL {o : Expr} {m : BM} {xs : List Expr} {ap pos : Pos} (hb : noCall0 o = true) (hn : xs.length < 29) (hp : (ap.endLine == pos.line) = true) (hst : stars xs = true) :
    PE X (.Call (.Attribute o m.nm ap) xs [] pos) (fun σ H Q => wE X o σ H fun x H1 => ∃ (k : KT) (id : String), mid k m = some id ∧
      (∀ (pins : List (Addr × Obj)) (s : Shared) (σ : L2.St) (v : Value), Inv X pins σ H1 s → RelV x v → s.TypeIs v k.ty ∧ ∀ a, v = .ref a → ∃ ob, s.heap.get? a = some ob ∧ ob.dict = none) ∧
      (match xs with
        | [] => fun (k : List V → Hp → Prop) => k [] H1
        | _ :: _ => fun k => wA X xs σ H1 k) fun vs H2 => ∀ (pins : List (Addr × Obj)) (s : Shared) (σ : L2.St) (v : Value) (us : List Value), Inv X pins σ H2 s → RelV x v → Vals vs us → wpAny (model X.prog X.w) X.A (call (.builtin id) (v :: us)) (EP X pins σ Q) X.xe s) := by
  refine ⟨fun pins s σ H Q I h => ?_⟩
  refine wpAny_Call_method_late (base_ok hb _) (few_ok hst hn) hp rfl (thn (h pins s I) fun v s1 ⟨x, H1, I1, r1, k, id, hid, ty, q1⟩ => ?_)
  obtain ⟨pa1, sl, hty⟩ := mid_ok hid
  obtain ⟨h1, h2⟩ := ty pins s1 σ v I1 r1
  refine ⟨k.ty, id, pa1, sl, hty, h1, h2, ?_⟩
  cases xs with
  | nil => exact Calls.callWith_builtin rfl (PySem.evalArgs_none (q1 pins s1 σ v [] I1 r1 .nil))
  | cons y ys =>
    unfold stars at hst
    rw [List.all_cons, Bool.and_eq_true] at hst
    have hA := q1 pos pins s1 I1
    rw [star_ok hst.1] at hA ⊢
    refine Calls.callWith_builtin (by show (false || (backTo pos (starEach ys X.env)).any (·.1)) = false; rw [stars_any hst.2]; rfl) (Calls.evalArgs_plain ?_)
    exact thn hA fun us s2 ⟨vs, H2, I2, r2, q2⟩ => q2 pins s2 σ v us I2 r1 r2
theorem s_bm (A : Amb X T ca.ca c cw) {f : Bool} {a : E} {m : BM} {es : List E} {o : Expr} {xs : List Expr} {ap pos : Pos} (hb : noCall0 o = true) (hn : xs.length < 29) (hp : (ap.endLine == pos.line) = true)
    (hst : stars xs = true) (hl : es.length = xs.length) (ia : SE X ca cw o (evE c ev a) ev) (ih : SA X ca cw xs (evEs c ev es) ev) : SE X ca cw (.Call (.Attribute o m.nm ap) xs [] pos) (evE c ev (.bm f a m es)) ev := by
  intro S μ H R σ Q L G h
  simp only [evE] at h
  rw [Res.post_bind] at h
  refine wE_of (pe_bmL hb hn hp hst) (ia S μ H R σ _ L G (Res.post_mono h (fun x S1 q μ1 H1 R1 v g1 L1 r1 => ?_) fun _ _ q => q))
  split at q
  · rename_i k ek
    have ty : ∀ (pins : List (Addr × Obj)) (s : Shared) (σ : L2.St) (v' : Value), Inv X pins σ H1 s → RelV v v' → s.TypeIs v' k.ty ∧ ∀ a, v' = .ref a → ∃ ob, s.heap.get? a = some ob ∧ ob.dict = none := fun pins s σ v' I rv => kind_ok I rv L1 r1 ek
    cases hm : mid k m with
    | none =>
      rw [hm] at q
      exact False.elim q
    | some id =>
      rw [hm] at q
      rw [if_pos (show (some id).isSome = true from rfl), Res.post_bind] at q
      refine ⟨k, id, hm, ty, ?_⟩
      cases xs with
      | nil =>
        have := nil_of hl
        subst this
        simp only [evEs] at q
        intro pins s σ' v' us I rv rs
        exact ops_bm A.hu f k m hm pins s σ' H1 v' us S1 μ1 R1 x [] v [] Q (XQ X.K ca μ S.n R cw) I rv rs L1 r1 .nil (Res.post_mono q (fun _ _ z => PQ.grow g1 z) fun _ _ q => q)
      | cons y ys =>
        refine ih S1 μ1 H1 R1 σ _ L1 (G.mono g1) (Res.post_mono q (fun ws S2 q2 μ2 H2 R2 vs g2 L2 r2 => ?_) fun _ _ q => XQ.grow g1 q)
        intro pins s σ' v' us I rv rs
        exact ops_bm A.hu f k m hm pins s σ' H2 v' us S2 μ2 R2 x ws v vs Q (XQ X.K ca μ S.n R cw) I rv rs L2 (r1.mono g2) r2 (Res.post_mono q2 (fun _ _ z => PQ.grow (g1.trans g2) z) fun _ _ q => q)
  · exact False.elim q
theorem boot_bi (b : BI) : bootBuiltins (Str.ofString b.nm) = some (biV b) := by cases b <;> decide +kernel
theorem bi_free (A : Amb X T ca.ca c cw) (b : BI) : X.mg (Str.ofString b.nm) = none := A.blt _ (by cases b <;> decide +kernel)
theorem bi_name (b : BI) : Str.ofString b.nm ≠ ("__name__" : Str) ∧ (Str.ofString b.nm == ("__debug__" : Str)) = false := by cases b <;> exact ⟨by decide +kernel, by decide +kernel⟩
theorem s_bi (A : Amb X T ca.ca c cw) (F : Fit X sc) {f : Bool} {b : BI} {es : List E} {y : Expr} {ys : List Expr} {p pos : Pos} (h2 : glB sc.sc (Str.ofString b.nm) = true) (hst : stars (y :: ys) = true)
    (ih : SA X ca cw (y :: ys) (evEs c ev es) ev) : SE X ca cw (.Call (.Name (Str.ofString b.nm) p) (y :: ys) [] pos) (evE c ev (.bi f b es)) ev := by
  intro S μ H R σ Q L G h
  simp only [evE] at h
  rw [Res.post_bind] at h
  have hst2 := hst
  unfold stars at hst2
  rw [List.all_cons, Bool.and_eq_true] at hst2
  obtain ⟨n1, n2⟩ := bi_name b
  have arg : wA X (y :: ys) σ H (fun vs H1 => wCall X (biV b) vs H1 Q) :=
    ih S μ H R σ _ L G (Res.post_mono h (fun ws S1 q μ1 H1 R1 vs g1 L1 r1 pins s σ' us I rs => ops_bi A.calm f b pins s σ' H1 us S1 μ1 R1 ws vs Q (XQ X.K ca μ S.n R cw) I rs L1 r1 (Res.post_mono q (fun _ _ z => PQ.grow g1 z) fun _ _ q => q)) fun _ _ q => q)
  have e : (∃ id, biV b = .builtin id) ∨ ∃ t, biV b = .type t := by cases b <;> first | exact .inl ⟨_, rfl⟩ | exact .inr ⟨_, rfl⟩
  rcases e with ⟨id, e⟩ | ⟨t, e⟩
  · have cr := callr (X := X) (biV b)
    have bb := boot_bi b
    rw [e] at cr bb
    rw [e] at arg
    exact wE_of (pe_callB cr (F.gl h2) (bi_free A b) bb (pa (y :: ys)) n1 n2 (star_ok hst2.1) (stars_any hst2.2)) arg
  · have cr := callr (X := X) (biV b)
    have bb := boot_bi b
    rw [e] at cr bb
    rw [e] at arg
    exact wE_of (pe_callTy cr (F.gl h2) (bi_free A b) bb (pa (y :: ys)) n1 n2 (star_ok hst2.1) (stars_any hst2.2)) arg
/-! ### isinstance -/
theorem kit_all : (["NoneType", "bool", "int", "str", "list", "tuple", "dict"] : List String).all (fun a => tyNames.all fun t => decide (kitB a t = some (a == t || (a == "bool" && t == "int")))) = true := by decide +kernel
theorem kit_at {a t : String} (ha : a ∈ (["NoneType", "bool", "int", "str", "list", "tuple", "dict"] : List String)) (ht : t ∈ tyNames) : kitB a t = some (a == t || (a == "bool" && t == "int")) :=
  of_decide_eq_true (List.all_eq_true.mp (List.all_eq_true.mp kit_all a ha) t ht)
theorem isTy_ok {K : KF} {S : St} {μ : Nat → Addr} {H R : Hp} (L : Lay K ca S μ H R) {w : W} {v : V} {t : String} {b : Bool} (r : RV K μ S.n R w v) (ht : t ∈ tyNames) (e : isTy S w t = some b) : ∃ a, TyX K H v (.type a) ∧ kitB a t = some b := by
  have beqc : ∀ {a : String}, a ≠ "bool" → (a == t || (a == "bool" && t == "int")) = (t == a) := fun {a} h => by
    have : (a == "bool") = false := by simpa using h
    rw [this, Bool.false_and, Bool.or_false]
    exact Bool.beq_comm
  cases r with
  | d h =>
    cases h with
    | non =>
      cases e
      refine ⟨_, .base .non, ?_⟩
      rw [kit_at (by decide) ht, beqc (by decide)]
      have : t ≠ "NoneType" := fun z => by subst z; revert ht; decide
      congr 1
      simpa using this
    | bl k =>
      cases e
      refine ⟨_, .base (.bl k), ?_⟩
      rw [kit_at (by decide) ht]
      congr 1
      rw [beq_self_eq_true, Bool.true_and]
      congr 1
      exact Bool.beq_comm
    | int i =>
      cases e
      exact ⟨_, .base (.int i), by rw [kit_at (by decide) ht, beqc (by decide)]⟩
    | str z =>
      cases e
      exact ⟨_, .base (.str z), by rw [kit_at (by decide) ht, beqc (by decide)]⟩
    | lst h hs =>
      cases e
      rcases h with h | ⟨o, h⟩
      · exact ⟨_, .base (.lst (L.sub _ _ h)), by rw [kit_at (by decide) ht, beqc (by decide)]⟩
      · exact ⟨_, .base (.frz (L.sub _ _ h)), by rw [kit_at (by decide) ht, beqc (by decide)]⟩
    | tup h hs =>
      cases e
      exact ⟨_, .base (.tup (L.sub _ _ h)), by rw [kit_at (by decide) ht, beqc (by decide)]⟩
    | ktup h h3 hs =>
      cases e
      rcases h with (h | ⟨o, h⟩) | ⟨o, its, n, h1, h2, _⟩
      · exact ⟨_, .base (.tup (L.sub _ _ h)), by rw [kit_at (by decide) ht, beqc (by decide)]⟩
      · exact ⟨_, .fTuple (L.sub _ _ h), by rw [kit_at (by decide) ht, beqc (by decide)]⟩
      · exact ⟨_, .kTuple h1 h2, by rw [kit_at (by decide) ht, beqc (by decide)]⟩
  | tup h hs =>
    cases e
    exact ⟨_, .base (.tup (L.sub _ _ h)), by rw [kit_at (by decide) ht, beqc (by decide)]⟩
  | scr h =>
    cases e
    rcases h with (h | ⟨o, h⟩) | ⟨o, its, n, h1, h2, _⟩
    · exact ⟨_, .base (.lst (L.sub _ _ h)), by rw [kit_at (by decide) ht, beqc (by decide)]⟩
    · exact ⟨_, .base (.frz (L.sub _ _ h)), by rw [kit_at (by decide) ht, beqc (by decide)]⟩
    · exact ⟨_, .kList h1 h2, by rw [kit_at (by decide) ht, beqc (by decide)]⟩
  | ref hi =>
    rename_i i
    have e : (match S.o i with
      | some (.lst _) => some (t == "list")
      | some (.dK _) | some (.dT _) => some (t == "dict")
      | _ => none) = some b := e
    split at e
    · rename_i e'
      cases e
      obtain ⟨h, e1, q⟩ := L.hol i _ e'
      cases q with
      | lst q => exact ⟨_, .base (.lst e1), by rw [kit_at (by decide) ht, beqc (by decide)]⟩
    · rename_i e'
      cases e
      obtain ⟨h, e1, q⟩ := L.hol i _ e'
      cases q with
      | dK q => exact ⟨_, .base (.dK e1), by rw [kit_at (by decide) ht, beqc (by decide)]⟩
    · rename_i e'
      cases e
      obtain ⟨h, e1, q⟩ := L.hol i _ e'
      cases q with
      | dT q => exact ⟨_, .base (.dT e1), by rw [kit_at (by decide) ht, beqc (by decide)]⟩
    · cases e
theorem ty_boot {t : String} (h : t ∈ tyNames) : bootBuiltins (Str.ofString t) = some (.type t) ∧ Str.ofString t ∈ (["len", "list", "sorted", "all", "any", "str", "int", "min", "max", "sum", "tuple", "abs", "isinstance", "range", "reversed", "enumerate", "zip", "bool"] : List Str) ∧
    Str.ofString t ≠ ("__name__" : Str) ∧ (Str.ofString t == ("__debug__" : Str)) = false := by
  have key : tyNames.all (fun t => decide (bootBuiltins (Str.ofString t) = some (.type t)) && (["len", "list", "sorted", "all", "any", "str", "int", "min", "max", "sum", "tuple", "abs", "isinstance", "range", "reversed", "enumerate", "zip", "bool"] : List Str).contains (Str.ofString t) &&
    !decide (Str.ofString t = ("__name__" : Str)) && !(Str.ofString t == ("__debug__" : Str))) = true := by decide +kernel
  have k := List.all_eq_true.mp key t h
  rw [Bool.and_eq_true, Bool.and_eq_true, Bool.and_eq_true] at k
  obtain ⟨⟨⟨k1, k2⟩, k3⟩, k4⟩ := k
  exact ⟨of_decide_eq_true k1, List.contains_iff_mem.mp k2, by simpa using k3, by simpa using k4⟩
theorem boot_isi : bootBuiltins ("isinstance" : Str) = some (.builtin "isinstance") := by decide +kernel
theorem s_isin (A : Amb X T ca.ca c cw) (F : Fit X sc) {a : E} {t : String} {y : Expr} {p p2 pos : Pos} (h2 : glB sc.sc "isinstance" = true) (hs : noStar y = true) (ht : glB sc.sc (Str.ofString t) = true)
    (ia : SE X ca cw y (evE c ev a) ev) : SE X ca cw (.Call (.Name "isinstance" p) [y, .Name (Str.ofString t) p2] [] pos) (evE c ev (.isin a [t])) ev := by
  intro S μ H R σ Q L G h
  simp only [evE] at h
  split at h
  · rename_i hall
    have hin : t ∈ tyNames := List.contains_iff_mem.mp (List.all_eq_true.mp hall t (List.mem_singleton.mpr rfl))
    obtain ⟨b1, b2, b3, b4⟩ := ty_boot hin
    refine wE_of (pe_callB call_isi (F.gl h2) (A.blt _ (by decide +kernel)) boot_isi (pa_cons (pe y) (pa_cons (pe_bltn (v := .ty t) (F.gl ht) (A.blt _ b2) b1 rfl b3 b4) pa_nil (by rfl)) (star_ok hs)) (by decide +kernel) (by decide +kernel) (star_ok hs) (by rfl)) ?_
    refine one ia L G h fun S2 μ2 H2 R2 w v g L2 r q => ?_
    unfold isinM at q
    dsimp only at q
    split at q
    · obtain ⟨b, e, q⟩ := okB_post q
      obtain ⟨a', tx, kb⟩ := isTy_ok L2 r hin e
      exact ⟨v, .ty t, _, _, b, rfl, .ty t, tx, kit_ty kb, grow0 q L2 (.d (.bl b))⟩
    · exact False.elim q
  · exact False.elim h
end
end Py

/-! Snd5: soundness of what is walked, of comprehensions. -/
namespace Py
open PySem PySem.Spec PyProof.Rows L2
open Evl (Ex ex_l ex_t ex_rd fresh_back)

/-! ### feeds -/
section
variable {K : KF} {ca : CF} {μ0 : Nat → Addr} {S0 : St} {R0 H0 : Hp}
abbrev keepOf (w : W) (xs : List W) : Option (Nat × List W) := match w with
  | .ref i => some (i, xs)
  | _ => none
theorem keep_ok {w : W} {ws xs : List W} {S : St} (h : (Itm.mk ws (keepOf w xs)).ok S) : keepP w xs S := by
  cases w <;> first | exact h | exact True.intro
theorem keep_now {S : St} {w : W} {b : Bool} {ws : List W} (e : seqOf S w = some (b, ws)) : keepP w ws S := by
  cases w with
  | ref i =>
    have e : (match S.o i with
      | some (.lst ws) => some (true, ws)
      | _ => none) = some (b, ws) := e
    split at e
    · cases e
      assumption
    · cases e
  | _ => exact True.intro
theorem feeds_list (L0 : Lay K ca S0 μ0 H0 R0) {w : W} {v : V} {ws : List W} (r : RV K μ0 S0.n R0 w v) (e : seqOf S0 w = some (true, ws)) : ∃ a, v = .ref a ∧ Feeds K ca μ0 S0.n R0 ⟨ws, keepOf w ws⟩ (Itl K a) ∧ ∃ xs, SqL K H0 a xs := by
  obtain ⟨a, ev, q⟩ := seq_at L0 r e
  refine ⟨a, ev, fun F0 S μ H R g L hk => ?_, ?_⟩
  · obtain ⟨vs, rv, h⟩ := q F0 S μ H R g L (keep_ok hk)
    have h := (h.resolve_right fun z => nomatch z.1).2
    refine ⟨fun i hi => ?_, ⟨vs, h, by show vs.length ≤ ws.length; rw [rv.length]; exact Nat.le_refl _⟩, fun i x H' w' ew y => ?_⟩
    · have hi : i < ws.length := hi
      rw [rv.length] at hi
      exact ⟨vs, vs[i], h, by simp [hi]⟩
    · obtain ⟨rfl, y⟩ := y
      obtain ⟨u, eu, ru⟩ := rv.get ew
      have := y vs h
      rw [eu] at this
      cases this
      exact ⟨R, Grow.refl _ _ _, L, ru⟩
  · obtain ⟨vs, rv, h⟩ := q ca.F S0 μ0 H0 R0 (Grow.refl _ _ _) L0 (keep_now e)
    exact ⟨vs, (h.resolve_right fun z => nomatch z.1).2⟩
theorem feeds_tup (L0 : Lay K ca S0 μ0 H0 R0) {w : W} {v : V} {ws : List W} (r : RV K μ0 S0.n R0 w v) (e : seqOf S0 w = some (false, ws)) : ∃ a, v = .ref a ∧ Feeds K ca μ0 S0.n R0 ⟨ws, keepOf w ws⟩ (Itt K a) ∧ ∃ xs, SqT K H0 a xs := by
  obtain ⟨a, ev, q⟩ := seq_at L0 r e
  have nr : ∀ i, w ≠ .ref i := fun i z => by
    subst z
    have e : (match S0.o i with
      | some (.lst ws) => some (true, ws)
      | _ => none) = some (false, ws) := e
    split at e <;> cases e
  refine ⟨a, ev, fun F0 S μ H R g L hk => ?_, ?_⟩
  · obtain ⟨vs, rv, h⟩ := q F0 S μ H R g L (keep_ok hk)
    have h := (h.resolve_left fun z => nomatch z.1).2
    refine ⟨fun i hi => ?_, ⟨vs, h, by show vs.length ≤ ws.length; rw [rv.length]; exact Nat.le_refl _⟩, fun i x H' w' ew y => ?_⟩
    · have hi : i < ws.length := hi
      rw [rv.length] at hi
      exact ⟨vs, vs[i], h, by simp [hi]⟩
    · obtain ⟨rfl, y⟩ := y
      obtain ⟨u, eu, ru⟩ := rv.get ew
      have := y vs h
      rw [eu] at this
      cases this
      exact ⟨R, Grow.refl _ _ _, L, ru⟩
  · obtain ⟨vs, rv, h⟩ := q ca.F S0 μ0 H0 R0 (Grow.refl _ _ _) L0 (keep_now e)
    exact ⟨vs, (h.resolve_left fun z => nomatch z.1).2⟩
theorem feeds_str {z : Str} : Feeds K ca μ0 S0.n R0 ⟨z.cps.toList.map fun c => .d (.str ⟨#[c]⟩), none⟩ (Its z) := by
  intro F0 S μ H R g L _
  have hl : (z.cps.toList.map fun c => W.d (.str ⟨#[c]⟩)).length = z.cps.size := by simp
  refine ⟨fun i hi => by show i < z.cps.size; rw [← hl]; exact hi, by show z.cps.size ≤ List.length _; rw [hl]; exact Nat.le_refl _, fun i x H' w ew y => ?_⟩
  obtain ⟨rfl, c, ec, rfl⟩ := y
  have ew : (z.cps.toList.map fun c => W.d (.str ⟨#[c]⟩))[i]? = some w := ew
  rw [List.getElem?_map, Array.getElem?_toList, ec] at ew
  cases ew
  exact ⟨R, Grow.refl _ _ _, L, .d (.str _)⟩
theorem rng_at {lo : Int} {n i : Nat} {w : W} (e : (rngW lo n)[i]? = some w) : w = wi (lo + (i : Nat)) := by
  unfold rngW at e
  rw [List.getElem?_map] at e
  obtain ⟨j, e1, e2⟩ := Option.map_eq_some_iff.mp e
  rw [List.getElem?_range] at e1
  · cases e1
    exact e2.symm
  · obtain ⟨h, _⟩ := List.getElem?_eq_some_iff.mp e1
    rw [List.length_range] at h
    exact h
theorem feeds_rng {lo : Int} {n : Nat} : Feeds K ca μ0 S0.n R0 ⟨rngW lo n, none⟩ (Itr lo n) := by
  intro F0 S μ H R g L _
  have hl : (rngW lo n).length = n := by unfold rngW; simp
  refine ⟨fun i hi => by show i < n; rw [← hl]; exact hi, by show n ≤ List.length _; rw [hl]; exact Nat.le_refl _, fun i x H' w ew y => ?_⟩
  obtain ⟨rfl, rfl⟩ := y
  rw [rng_at ew]
  exact ⟨R, Grow.refl _ _ _, L, .d (.int _)⟩
theorem feeds_rev (L0 : Lay K ca S0 μ0 H0 R0) {w : W} {v : V} {ws : List W} (r : RV K μ0 S0.n R0 w v) (e : seqOf S0 w = some (true, ws)) :
    ∃ a, v = .ref a ∧ Feeds K ca μ0 S0.n R0 ⟨ws.reverse, keepOf w ws⟩ (Itv K a ws.length) ∧ ∃ xs, SqL K H0 a xs ∧ xs.length = ws.length := by
  obtain ⟨a, ev, q⟩ := seq_at L0 r e
  refine ⟨a, ev, fun F0 S μ H R g L hk => ?_, ?_⟩
  · obtain ⟨vs, rv, h⟩ := q F0 S μ H R g L (keep_ok hk)
    have h := (h.resolve_right fun z => nomatch z.1).2
    have hl := rv.length
    refine ⟨fun i hi => ?_, by show ws.length ≤ ws.reverse.length; rw [List.length_reverse]; exact Nat.le_refl _, fun i x H' w' ew y => ?_⟩
    · have hi : i < ws.reverse.length := hi
      rw [List.length_reverse] at hi
      exact ⟨hi, vs, vs[ws.length - 1 - i]'(by omega), h, by simp [show ws.length - 1 - i < vs.length by omega]⟩
    · obtain ⟨rfl, y⟩ := y
      have ew : ws.reverse[i]? = some w' := ew
      have hi : i < ws.length := by
        have := (List.getElem?_eq_some_iff.mp ew).1
        rw [List.length_reverse] at this
        exact this
      rw [List.getElem?_reverse hi] at ew
      obtain ⟨u, eu, ru⟩ := rv.get ew
      have := y vs h
      rw [eu] at this
      cases this
      exact ⟨R, Grow.refl _ _ _, L, ru⟩
  · obtain ⟨vs, rv, h⟩ := q ca.F S0 μ0 H0 R0 (Grow.refl _ _ _) L0 (keep_now e)
    exact ⟨vs, (h.resolve_right fun z => nomatch z.1).2, rv.length.symm⟩
theorem enum_at : ∀ {ws : List W} {n i : Nat} {w : W}, (enumW n ws)[i]? = some w → ∃ u, ws[i]? = some u ∧ w = mkTup [wi ((n + i : Nat) : Int), u]
  | [], n, i, w, e => by simp [enumW] at e
  | u :: r, n, 0, w, e => by
    simp [enumW] at e
    exact ⟨u, rfl, by rw [← e]; rfl⟩
  | u :: r, n, i + 1, w, e => by
    have e : (enumW (n + 1) r)[i]? = some w := by simpa [enumW] using e
    obtain ⟨x, h1, h2⟩ := enum_at e
    exact ⟨x, by simpa using h1, by rw [h2, show n + 1 + i = n + (i + 1) by omega]⟩
theorem enum_len : ∀ {ws : List W} {n : Nat}, (enumW n ws).length = ws.length
  | [], _ => rfl
  | _ :: r, n => congrArg Nat.succ (enum_len (ws := r) (n := n + 1))
theorem feeds_enum (L0 : Lay K ca S0 μ0 H0 R0) {w : W} {v : V} {ws : List W} (r : RV K μ0 S0.n R0 w v) (e : seqOf S0 w = some (true, ws)) :
    ∃ a, v = .ref a ∧ Feeds K ca μ0 S0.n R0 ⟨enumW 0 ws, keepOf w ws⟩ (Ite K a) ∧ ∃ xs, SqL K H0 a xs := by
  obtain ⟨a, ev, F, ex⟩ := feeds_list L0 r e
  refine ⟨a, ev, fun F0 S μ H R g L hk => ?_, ex⟩
  obtain ⟨f1, f2, f3⟩ := F F0 S μ H R g L (by cases w <;> exact hk)
  refine ⟨fun i hi => ?_, ?_, fun i x H' w' ew y => ?_⟩
  · have hi : i < (enumW 0 ws).length := hi
    rw [enum_len] at hi
    exact f1 i hi
  · show (Itl K a).stop (enumW 0 ws).length H
    rw [enum_len]
    exact f2
  · obtain ⟨t, x', rfl, ht, rfl, y⟩ := y
    obtain ⟨u, eu, rfl⟩ := enum_at ew
    obtain ⟨R2, g2, L2, ru⟩ := f3 i x' H u eu ⟨rfl, y⟩
    obtain ⟨L3, g3⟩ := L2.newD (h := .tup [.int (i : Nat), x']) ht
    refine ⟨_, g2.trans g3, L3, mkTup_rv upd_same (.cons ?_ (.cons (ru.mono g3) .nil))⟩
    rw [Nat.zero_add]
    exact .d (.int _)
theorem feeds_zip {a b : Addr} {xs ys : List PyData} {vs us : List V} (h1 : Rd R0 a (.lst vs)) (h2 : Rd R0 b (.lst us)) (d1 : DVs K R0 vs xs) (d2 : DVs K R0 us ys) :
    Feeds K ca μ0 S0.n R0 ⟨(xs.zip ys).map fun p => .d (.tuple [p.1, p.2]), none⟩ (Itz K a b) := by
  intro F0 S μ H R g L _
  have q1 : SqL K H a vs := .inl (ex_rd L.sub (ex_rd g.ex h1))
  have q2 : SqL K H b us := .inl (ex_rd L.sub (ex_rd g.ex h2))
  have l1 := d1.length
  have l2 := d2.length
  have hl : ((xs.zip ys).map fun p => W.d (.tuple [p.1, p.2])).length = min xs.length ys.length := by rw [List.length_map, List.length_zip]
  refine ⟨fun i hi => ?_, ⟨vs, us, q1, q2, ?_⟩, fun i x H' w ew y => ?_⟩
  · have hi : i < ((xs.zip ys).map fun p => W.d (.tuple [p.1, p.2])).length := hi
    rw [hl] at hi
    exact ⟨vs, us, vs[i]'(by omega), us[i]'(by omega), q1, q2, by simp [show i < vs.length by omega], by simp [show i < us.length by omega]⟩
  · show vs.length ≤ ((xs.zip ys).map fun p => W.d (.tuple [p.1, p.2])).length ∨ us.length ≤ ((xs.zip ys).map fun p => W.d (.tuple [p.1, p.2])).length
    rw [hl]
    omega
  · obtain ⟨t, x', y', rfl, ht, rfl, y1, y2⟩ := y
    have ew : ((xs.zip ys).map fun p => W.d (.tuple [p.1, p.2]))[i]? = some w := ew
    rw [List.getElem?_map] at ew
    obtain ⟨⟨d, e⟩, ez, rfl⟩ := Option.map_eq_some_iff.mp ew
    obtain ⟨ex, ey⟩ := List.getElem?_zip_eq_some.mp ez
    obtain ⟨L3, g3⟩ := L.newD (h := .tup [x', y']) ht
    have key : ∀ {vs : List V} {ds : List PyData} {i : Nat} {d : PyData} {v : V}, DVs K R0 vs ds → ds[i]? = some d → vs[i]? = some v → DV K R0 v d := by
      intro vs ds i d v h
      induction h using DVs.rec (motive_1 := fun _ _ _ => True) generalizing i with
      | nil => intro e; simp at e
      | cons a b _ ih =>
        intro e1 e2
        cases i with
        | zero =>
          simp at e1 e2
          subst e1 e2
          exact a
        | succ i => exact ih (by simpa using e1) (by simpa using e2)
      | _ => trivial
    have k1 := key d1 ex (y1 vs q1)
    have k2 := key d2 ey (y2 us q2)
    exact ⟨_, g3, L3, .d (.tup upd_same (.cons ((k1.mono g.ex).mono g3.ex) (.cons ((k2.mono g.ex).mono g3.ex) .nil)))⟩
end
end Py

/-! Snd6: soundness of iterables, of comprehensions. -/
namespace Py
open PySem PySem.Spec PyProof.Rows L2
open Evl (Ex ex_l ex_t ex_rd fresh_back)

section
variable {X : Cx} {T : Tab} {ca : CF} {c : Cfg} {cw : String → Hp → Prop} {ev : Ev} {sc : SC}
theorem ev1 {a : E} {S : St} {β : Type} {k : List W → St → Res β} : (evEs c ev [a] S).bind k = (evE c ev a S).bind fun w S => k [w] S := by
  simp only [evEs]
  cases evE c ev a S <;> rfl
theorem ev2 {a b : E} {S : St} {β : Type} {k : List W → St → Res β} : (evEs c ev [a, b] S).bind k = (evE c ev a S).bind fun w S => (evE c ev b S).bind fun z S => k [w, z] S := by
  simp only [evEs]
  cases evE c ev a S with
  | ok w S1 =>
    simp only [Res.bind]
    cases evE c ev b S1 <;> rfl
  | _ => rfl
/-- where the walked thing's own run has left -/
theorem rcvr {a : E} {x : Expr} {S S1 : St} {μ : Nat → Addr} {H R : Hp} {σ : L2.St} {w : W} (ia : SE X ca cw x (evE c ev a) ev) (L : Lay X.K ca S μ H R) (G : REnv X.K μ S.n R ev σ) (ha : evE c ev a S = .ok w S1) {k : V → Hp → Prop}
    (hk : ∀ (μ1 : Nat → Addr) (H1 R1 : Hp) (v : V), Grow μ S.n R μ1 S1.n R1 → Lay X.K ca S1 μ1 H1 R1 → RV X.K μ1 S1.n R1 w v → k v H1) : wE X x σ H k := ia S μ H R σ _ L G (by
  rw [ha]
  intro μ1 H1 R1 v g1 L1 r1
  exact hk μ1 H1 R1 v g1 L1 r1)
theorem si_seq {a : E} {tg x : Expr} (ia : SE X ca cw x (evE c ev a) ev) : SI X ca cw tg x (fun S => (evEs c ev [a] S).bind fun ws S => itM .seq ws S) ev := by
  intro S μ H R σ Q L G h
  dsimp only at h
  rw [ev1] at h
  cases ha : evE c ev a S with
  | fail => rw [ha] at h; exact False.elim h
  | exc cl S1 =>
    rw [ha] at h
    refine wI_of (pi_list (pe x)) (ia S μ H R σ _ L G ?_)
    rw [ha]
    exact h
  | ok w S1 =>
    rw [ha] at h
    have h : (itS1 w S1).post (PQi X.K ca μ S.n R Q) (XQ X.K ca μ S.n R cw) := h
    unfold itS1 at h
    split at h
    · rename_i b xs e
      cases b with
      | true =>
        refine wI_of (pi_list (pe x)) (rcvr ia L G ha fun μ1 H1 R1 v g1 L1 r1 => ?_)
        obtain ⟨a, rfl, F, vs, hv⟩ := feeds_list L1 r1 e
        exact ⟨a, rfl, ⟨vs, hv⟩, h μ1 H1 R1 _ g1 L1 F⟩
      | false =>
        refine wI_of (pi_tup (pe x)) (rcvr ia L G ha fun μ1 H1 R1 v g1 L1 r1 => ?_)
        obtain ⟨a, rfl, F, vs, hv⟩ := feeds_tup L1 r1 e
        exact ⟨a, rfl, ⟨vs, hv⟩, h μ1 H1 R1 _ g1 L1 F⟩
    · split at h
      · refine wI_of (pi_str (pe x)) (rcvr ia L G ha fun μ1 H1 R1 v g1 L1 r1 => ?_)
        have e := r1.str
        subst e
        exact ⟨_, rfl, h μ1 H1 R1 _ g1 L1 (feeds_str)⟩
      · exact False.elim h
theorem si_r1 (A : Amb X T ca.ca c cw) (F : Fit X sc) {es : List E} {tg y : Expr} {p pos : Pos} (h2 : glB sc.sc "range" = true) (hs : noStar y = true) (ih : SA X ca cw [y] (evEs c ev es) ev) :
    SI X ca cw tg (.Call (.Name "range" p) [y] [] pos) (fun S => (evEs c ev es S).bind fun ws S => itM .range1 ws S) ev := by
  intro S μ H R σ Q L G h
  dsimp only at h
  rw [Res.post_bind] at h
  refine wI_of (pi_range1 (F.gl h2) (A.blt _ (by decide +kernel)) (pa [y]) (star_ok hs)) (ih S μ H R σ _ L G (Res.post_mono h (fun ws S1 q μ1 H1 R1 vs g1 L1 r1 => ?_) fun _ _ q => q))
  have q : (itR1 ws S1).post (PQi X.K ca μ S.n R Q) (XQ X.K ca μ S.n R cw) := q
  unfold itR1 at q
  split at q
  · rename_i j
    split at q
    · rename_i hj
      obtain ⟨v, rfl, rv⟩ := rvs1 r1
      have e := rv.int
      subst e
      exact ⟨_, rfl, hj.1, hj.2, q μ1 H1 R1 _ g1 L1 feeds_rng⟩
    · exact False.elim q
  · exact False.elim q
theorem si_r2 (A : Amb X T ca.ca c cw) (F : Fit X sc) {es : List E} {tg y z : Expr} {p pos : Pos} (h2 : glB sc.sc "range" = true) (hs : noStar y = true) (hs2 : noStar z = true) (ih : SA X ca cw [y, z] (evEs c ev es) ev) :
    SI X ca cw tg (.Call (.Name "range" p) [y, z] [] pos) (fun S => (evEs c ev es S).bind fun ws S => itM .range2 ws S) ev := by
  intro S μ H R σ Q L G h
  dsimp only at h
  rw [Res.post_bind] at h
  refine wI_of (pi_range2 (F.gl h2) (A.blt _ (by decide +kernel)) (pa [y, z]) (by rw [star_ok hs, star_ok hs2]; rfl) (star_ok hs2)) (ih S μ H R σ _ L G (Res.post_mono h (fun ws S1 q μ1 H1 R1 vs g1 L1 r1 => ?_) fun _ _ q => q))
  have q : (itR2 ws S1).post (PQi X.K ca μ S.n R Q) (XQ X.K ca μ S.n R cw) := q
  unfold itR2 at q
  split at q
  · rename_i i j
    split at q
    · rename_i hj
      obtain ⟨v, u, rfl, rv, ru⟩ := rvs2 r1
      have e := rv.int
      have e2 := ru.int
      subst e e2
      exact ⟨_, _, rfl, hj, q μ1 H1 R1 _ g1 L1 feeds_rng⟩
    · exact False.elim q
  · exact False.elim q
theorem si_rev (A : Amb X T ca.ca c cw) (F : Fit X sc) {es : List E} {tg y : Expr} {p pos : Pos} (h2 : glB sc.sc "reversed" = true) (hs : noStar y = true) (ih : SA X ca cw [y] (evEs c ev es) ev) :
    SI X ca cw tg (.Call (.Name "reversed" p) [y] [] pos) (fun S => (evEs c ev es S).bind fun ws S => itM .rev ws S) ev := by
  intro S μ H R σ Q L G h
  dsimp only at h
  rw [Res.post_bind] at h
  refine wI_of (pi_reversed (F.gl h2) (A.blt _ (by decide +kernel)) (pa [y]) (star_ok hs)) (ih S μ H R σ _ L G (Res.post_mono h (fun ws S1 q μ1 H1 R1 vs g1 L1 r1 => ?_) fun _ _ q => q))
  have q : (itRev ws S1).post (PQi X.K ca μ S.n R Q) (XQ X.K ca μ S.n R cw) := q
  unfold itRev at q
  split at q
  · rename_i w
    split at q
    · rename_i xs e
      obtain ⟨v, rfl, rv⟩ := rvs1 r1
      obtain ⟨a, rfl, Fd, vs, hv, hl⟩ := feeds_rev L1 rv e
      refine ⟨a, vs, rfl, hv, ?_⟩
      rw [hl]
      exact q μ1 H1 R1 _ g1 L1 Fd
    · exact False.elim q
  · exact False.elim q
theorem si_enum (A : Amb X T ca.ca c cw) (F : Fit X sc) {es : List E} {elts : List Expr} {kk : Nat} {tp : Pos} {y : Expr} {p pos : Pos} (h2 : glB sc.sc "enumerate" = true) (hs : noStar y = true) (ih : SA X ca cw [y] (evEs c ev es) ev) :
    SI X ca cw (.Tuple elts kk tp) (.Call (.Name "enumerate" p) [y] [] pos) (fun S => (evEs c ev es S).bind fun ws S => itM .enum ws S) ev := by
  intro S μ H R σ Q L G h
  dsimp only at h
  rw [Res.post_bind] at h
  refine wI_of (pi_enum (F.gl h2) (A.blt _ (by decide +kernel)) (pa [y]) (star_ok hs)) (ih S μ H R σ _ L G (Res.post_mono h (fun ws S1 q μ1 H1 R1 vs g1 L1 r1 => ?_) fun _ _ q => q))
  have q : (itEnum ws S1).post (PQi X.K ca μ S.n R Q) (XQ X.K ca μ S.n R cw) := q
  unfold itEnum at q
  split at q
  · rename_i w
    split at q
    · rename_i xs e
      obtain ⟨v, rfl, rv⟩ := rvs1 r1
      obtain ⟨a, rfl, Fd, vs, hv⟩ := feeds_enum L1 rv e
      exact ⟨a, vs, rfl, hv, q μ1 H1 R1 _ g1 L1 Fd⟩
    · exact False.elim q
  · exact False.elim q
theorem si_zip (A : Amb X T ca.ca c cw) (F : Fit X sc) {es : List E} {elts : List Expr} {kk : Nat} {tp : Pos} {y z : Expr} {p pos : Pos} (h2 : glB sc.sc "zip" = true) (hs : noStar y = true) (hs2 : noStar z = true) (ih : SA X ca cw [y, z] (evEs c ev es) ev) :
    SI X ca cw (.Tuple elts kk tp) (.Call (.Name "zip" p) [y, z] [] pos) (fun S => (evEs c ev es S).bind fun ws S => itM .zip ws S) ev := by
  intro S μ H R σ Q L G h
  dsimp only at h
  rw [Res.post_bind] at h
  refine wI_of (pi_zip (F.gl h2) (A.blt _ (by decide +kernel)) (pa [y, z]) (star_ok hs) (by rw [star_ok hs2]; rfl)) (ih S μ H R σ _ L G (Res.post_mono h (fun ws S1 q μ1 H1 R1 vs g1 L1 r1 => ?_) fun _ _ q => q))
  have q : (itZip ws S1).post (PQi X.K ca μ S.n R Q) (XQ X.K ca μ S.n R cw) := q
  unfold itZip at q
  split at q
  · rename_i xs ys
    obtain ⟨v, u, rfl, rv, ru⟩ := rvs2 r1
    cases rv with
    | d rv =>
      cases ru with
      | d ru =>
        cases rv with
        | lst h1 d1 =>
          cases ru with
          | lst h2 d2 => exact ⟨_, _, _, _, rfl, .inl (ex_rd L1.sub h1), .inl (ex_rd L1.sub h2), q μ1 H1 R1 _ g1 L1 (feeds_zip h1 h2 d1 d2)⟩
  · exact False.elim q

end
end Py

/-! Snd7: soundness of targets, of comprehensions. -/
namespace Py
open PySem PySem.Spec PyProof.Rows L2
open Evl (Ex ex_l ex_t ex_rd fresh_back)

/-! ### slots wiped -/
theorem wipe_set_in {i : Nat} {x : Option V} : ∀ {vs : List Nat} {σ : L2.St}, i ∈ vs → L2.wipe (σ.set i x) vs = L2.wipe σ vs
  | v :: vs, σ, h => by
    show (L2.wipe (σ.set i x) vs).set v none = (L2.wipe σ vs).set v none
    by_cases hi : i ∈ vs
    · rw [wipe_set_in hi]
    · have e : i = v := (List.mem_cons.mp h).resolve_right hi
      subst e
      have out : ∀ {vs : List Nat} {σ : L2.St}, i ∉ vs → L2.wipe (σ.set i x) vs = (L2.wipe σ vs).set i x := by
        intro vs
        induction vs with
        | nil => intro σ _; rfl
        | cons v vs ih =>
          intro σ h
          have h1 : i ≠ v := fun z => h (z ▸ List.mem_cons_self)
          have h2 : i ∉ vs := fun z => h (List.mem_cons_of_mem _ z)
          show (L2.wipe (σ.set i x) vs).set v none = ((L2.wipe σ vs).set v none).set i x
          rw [ih h2, List.set_comm _ _ h1]
      rw [out hi, List.set_set]
theorem wipe_idem : ∀ {vs : List Nat} {σ : L2.St}, L2.wipe (L2.wipe σ vs) vs = L2.wipe σ vs := by
  have key : ∀ {ws vs : List Nat} {σ : L2.St}, (∀ i ∈ ws, i ∈ vs) → L2.wipe (L2.wipe σ ws) vs = L2.wipe σ vs := by
    intro ws
    induction ws with
    | nil => intro vs σ _; rfl
    | cons w ws ih =>
      intro vs σ h
      show L2.wipe ((L2.wipe σ ws).set w none) vs = _
      rw [wipe_set_in (h w List.mem_cons_self)]
      exact ih fun i hi => h i (List.mem_cons_of_mem _ hi)
  intro vs σ
  exact key fun _ h => h
def Wiped (vs : List Nat) (σ σ' : L2.St) : Prop := ∀ own : List Nat, (∀ i ∈ vs, i ∈ own) → L2.wipe σ' own = L2.wipe σ own

/-! ### targets -/
def SG (X : Cx) (cc : String → Addr) (tg : Expr) (p : Pt) : Prop := ∀ (F : Hp) (S : St) (μ : Nat → Addr) (H R : Hp) (ev ev' : Ev) (σ : L2.St) (w : W) (v : V) (Q : L2.St → Hp → Prop), Lay X.K ⟨cc, F⟩ S μ H R → REnv X.K μ S.n R ev σ → RV X.K μ S.n R w v → bindPt p w ev S = some ev' →
  (∀ σ', REnv X.K μ S.n R ev' σ' → Wiped (ptVars p) σ σ' → Q σ' H) → wG X tg v σ H Q
def wGs (X : Cx) (tgs : List Expr) : TGs := fun vs σ H Q => ∀ (pins : List (Addr × Obj)) (s : Shared) (us : List Value), Inv X pins σ H s → Vals vs us →
  wpAny (model X.prog X.w) X.A (assignInOrder ((assignEach tgs X.env).map (·.2)) us) (fun _ s' => ∃ σ' H', Inv X pins σ' H' s' ∧ Q σ' H') X.xe s
theorem pgs {X : Cx} (tgs : List Expr) : PGs X tgs (wGs X tgs) := ⟨fun pins s σ H vs us Q I r h => h pins s us I r⟩
theorem wGs_of {X : Cx} {tgs : List Expr} {t : TGs} (h : PGs X tgs t) {vs : List V} {σ : L2.St} {H : Hp} {Q : L2.St → Hp → Prop} (q : t vs σ H Q) : wGs X tgs vs σ H Q := fun pins s us I r => h.run pins s σ H vs us Q I r q
def SGs (X : Cx) (cc : String → Addr) (tgs : List Expr) (ps : List Pt) : Prop := ∀ (F : Hp) (S : St) (μ : Nat → Addr) (H R : Hp) (ev ev' : Ev) (σ : L2.St) (ws : List W) (vs : List V) (Q : L2.St → Hp → Prop), Lay X.K ⟨cc, F⟩ S μ H R → REnv X.K μ S.n R ev σ → RVs X.K μ S.n R ws vs → bindPt.bindPts ps ws ev S = some ev' →
  (∀ σ', REnv X.K μ S.n R ev' σ' → Wiped (ptVars.vars ps) σ σ' → Q σ' H) → wGs X tgs vs σ H Q
theorem each_ok {e : Expr} {es : List Expr} {env : Env} (h : noStar e = true) : assignEach (e :: es) env = (false, assign e env) :: assignEach es env := by
  cases e <;> first | rfl | cases h
mutual
theorem sg {X : Cx} {cc : String → Addr} {sc : SC} (hcalm : X.calm = true) (hnd : X.N.Nodup) (F : Fit X sc) : ∀ (p : Pt) (tg : Expr), chkPt sc p tg = true → SG X cc tg p
  | .v i, tg, h => by
    cases tg with
    | Name x pos =>
      have h : (slotB sc i x && locB sc x) = true := h
      rw [Bool.and_eq_true] at h
      obtain ⟨h1, h2⟩ := h
      obtain ⟨e1, _⟩ := F.slot h1
      have loc : Loc X.env.scope x ∧ (X.fn x = true ∨ X.env.scope.names.lookup x = some .local) := by
        rw [F.s, F.f]
        unfold locB kindN at h2
        split at h2
        · rename_i e
          exact ⟨.inl e, .inr e⟩
        · rename_i e
          exact ⟨.inr e, .inl h2⟩
        · cases h2
      intro F0 S μ H R ev ev' σ w v Q L G r e k
      cases e
      exact wG_of (pg_name hnd e1 loc.1 loc.2) (k _ (G.set r i) fun own ho => wipe_set_in (ho i (List.mem_singleton.mpr rfl)))
    | _ => cases h
  | .t ps, tg, h => by
    cases tg with
    | Tuple xs kk pos =>
      have h : chkPt.chkPts sc ps xs = true := h
      obtain ⟨h1, h2, h3⟩ := sgs hcalm hnd F (cc := cc) ps xs h
      intro F0 S μ H R ev ev' σ w v Q L G r e k
      have e : (match seqOf S w with
        | some (false, ws) => bindPt.bindPts ps ws ev S
        | _ => none) = some ev' := e
      split at e
      · rename_i ws es
        obtain ⟨a, vs, rfl, rv, hs⟩ := L.seq r es
        have hs := (hs.resolve_left fun z => nomatch z.1).2
        have hl : ∀ {ps : List Pt} {ws : List W} {e e' : Ev}, bindPt.bindPts ps ws e S = some e' → ws.length = ps.length := by
          intro ps
          induction ps with
          | nil => intro ws e e' h; cases ws with
            | nil => rfl
            | cons _ _ => cases h
          | cons p ps ih => intro ws e e' h; cases ws with
            | nil => cases h
            | cons w ws =>
              have h : (match bindPt p w e S with
                | some e' => bindPt.bindPts ps ws e' S
                | none => none) = some e' := h
              split at h
              · exact congrArg Nat.succ (ih h)
              · cases h
        refine wG_of (pg_tup (n := ps.length) hcalm (pgs xs) (by rw [h2]) h3) ⟨a, vs, rfl, hs, by rw [← rv.length]; exact hl e, ?_⟩
        exact h1 F0 S μ H R ev ev' σ ws vs Q L G rv e k
      · cases e
    | _ => cases h
theorem sgs {X : Cx} {cc : String → Addr} {sc : SC} (hcalm : X.calm = true) (hnd : X.N.Nodup) (F : Fit X sc) : ∀ (ps : List Pt) (xs : List Expr), chkPt.chkPts sc ps xs = true →
    SGs X cc xs ps ∧ (assignEach xs X.env).length = ps.length ∧ (assignEach xs X.env).findIdx? (·.1) = none
  | [], xs, h => by
    cases xs with
    | nil =>
      refine ⟨fun F0 S μ H R ev ev' σ ws vs Q L G r e k => ?_, rfl, rfl⟩
      cases r with
      | nil =>
        cases e
        exact wGs_of pgs_nil ⟨rfl, k σ G fun _ _ => rfl⟩
      | cons _ _ => cases e
    | cons _ _ => cases h
  | p :: ps, xs, h => by
    cases xs with
    | nil => cases h
    | cons x xs =>
      have h : (noStar x && chkPt sc p x && chkPt.chkPts sc ps xs) = true := h
      rw [Bool.and_eq_true, Bool.and_eq_true] at h
      obtain ⟨⟨hs, hp⟩, hps⟩ := h
      have h1 := sg (cc := cc) hcalm hnd F p x hp
      obtain ⟨h2, h3, h4⟩ := sgs (cc := cc) hcalm hnd F ps xs hps
      refine ⟨fun F0 S μ H R ev ev' σ ws vs Q L G r e k => ?_, by rw [each_ok hs]; exact congrArg Nat.succ h3, by rw [each_ok hs]; simp [List.findIdx?_cons, h4]⟩
      cases r with
      | nil => cases e
      | cons ra rb =>
        rename_i w ws v vs
        have e : (match bindPt p w ev S with
          | some e' => bindPt.bindPts ps ws e' S
          | none => none) = some ev' := e
        split at e
        · rename_i ev1 e1
          refine wGs_of (pgs_cons (pg x) (pgs xs) (by rw [each_ok hs]; rfl)) ⟨v, vs, rfl, h1 F0 S μ H R ev ev1 σ w v _ L G ra e1 fun σ1 G1 w1 => ?_⟩
          exact h2 F0 S μ H R ev1 ev' σ1 ws vs Q L G1 rb e fun σ2 G2 w2 => k σ2 G2 fun own ho =>
            (w2 own fun i hi => ho i (List.mem_append_right _ hi)).trans (w1 own fun i hi => ho i (List.mem_append_left _ hi))
        · cases e
end
end Py

/-! Snd8: soundness of comprehensions. -/
namespace Py
open PySem PySem.Spec PyProof.Rows L2
open Evl (Ex ex_l ex_t ex_rd fresh_back)

/-! ### fences -/
section
variable {K : KF} {cc : String → Addr} {F F' : Hp} {S : St} {μ : Nat → Addr} {H R : Hp}
theorem HolO.frame {n : Nat} {o : O} {h : HO} (q : HolO K ⟨cc, F⟩ μ n R o h) : HolO K ⟨cc, F'⟩ μ n R o h := by
  cases q with
  | lst r => exact .lst r
  | dK r => exact .dK r
  | dT r => exact .dT r
  | fK r => exact .fK r
  | fT r => exact .fT r
  | ins r => exact .ins r
theorem Lay.frame (L : Lay K ⟨cc, F⟩ S μ H R) (h : ∀ a o, F' a = some o → H a = some o ∧ R a = none ∧ ∀ i u, S.o i = some u → μ i ≠ a) : Lay K ⟨cc, F'⟩ S μ H R :=
  ⟨L.dom, L.inj, fun i o e => let ⟨x, a, b⟩ := L.hol i o e; ⟨x, a, b.frame⟩, L.sub, L.off, h⟩
theorem Lay.weaken (L : Lay K ⟨cc, F⟩ S μ H R) (h : Ex F' F) : Lay K ⟨cc, F'⟩ S μ H R := L.frame fun a o e => L.frm a o (h a o e)
theorem Lay.not_at (L : Lay K ⟨cc, F⟩ S μ H R) {p : Addr} (hp : H p = none) : ∀ i u, S.o i = some u → μ i ≠ p := fun i u e z => by
  obtain ⟨h', e', _⟩ := L.hol i u e
  rw [z, hp] at e'
  cases e'
/-- a new object that is to stay -/
theorem Lay.fence (L : Lay K ⟨cc, F⟩ S μ H R) {p : Addr} {h : HO} (hp : H p = none) : Lay K ⟨cc, upd F p h⟩ S μ (upd H p h) R := by
  have L1 : Lay K ⟨cc, F⟩ S μ (upd H p h) R := L.raise hp
  refine L1.frame fun a o e => ?_
  by_cases ha : a = p
  · subst ha
    rw [upd_same] at e ⊢
    exact ⟨e, fresh_back L.sub hp, L.not_at hp⟩
  · rw [upd_ne ha] at e
    exact L1.frm a o e
/-- what is fenced is changed -/
theorem Lay.refence (L : Lay K ⟨cc, upd F p h0⟩ S μ H R) {h : HO} : Lay K ⟨cc, upd F p h⟩ S μ (upd H p h) R := by
  obtain ⟨h1, h2, h3⟩ := L.frm p h0 upd_same
  refine ⟨L.dom, L.inj, fun i o e => ?_, fun a o e => ?_, L.off, fun a o e => ?_⟩
  · obtain ⟨x, a, b⟩ := L.hol i o e
    exact ⟨x, by rw [upd_ne (h3 i o e)]; exact a, b.frame⟩
  · rw [upd_ne (ne_of_none e h2)]
    exact L.sub a o e
  · by_cases ha : a = p
    · subst ha
      have e : upd F a h a = some o := e
      rw [upd_same] at e ⊢
      exact ⟨e, h2, h3⟩
    · have e : upd F p h a = some o := e
      rw [upd_ne ha] at e ⊢
      exact L.frm a o (by show upd F p h0 a = some o; rw [upd_ne ha]; exact e)
/-- the heap without a fenced object -/
def cutH (H : Hp) (p : Addr) : Hp := fun a => if a = p then none else H a
theorem cut_same {p : Addr} : cutH H p p = none := if_pos rfl
theorem cut_ne {a p : Addr} (h : a ≠ p) : cutH H p a = H a := if_neg h
theorem upd_cut {p : Addr} {h : HO} (e : H p = some h) : upd (cutH H p) p h = H := by
  funext a
  by_cases ha : a = p
  · subst ha
    rw [upd_same, e]
  · rw [upd_ne ha, cut_ne ha]
theorem Lay.lift {p : Addr} {h0 : HO} (L : Lay K ⟨cc, upd F p h0⟩ S μ H R) (hF : F p = none) : Lay K ⟨cc, F⟩ S μ (cutH H p) R := by
  obtain ⟨h1, h2, h3⟩ := L.frm p h0 upd_same
  refine ⟨L.dom, L.inj, fun i o e => ?_, fun a o e => ?_, L.off, fun a o e => ?_⟩
  · obtain ⟨x, a, b⟩ := L.hol i o e
    exact ⟨x, by rw [cut_ne (h3 i o e)]; exact a, b.frame⟩
  · rw [cut_ne (ne_of_none e h2)]
    exact L.sub a o e
  · have e : F a = some o := e
    have ha : a ≠ p := ne_of_none e hF
    rw [cut_ne ha]
    exact L.frm a o (by show upd F p h0 a = some o; rw [upd_ne ha]; exact e)
end
theorem upd_upd {H : Hp} {p : Addr} {a b : HO} : upd (upd H p a) p b = upd H p b := by
  funext x
  by_cases hx : x = p
  · subst hx
    rw [upd_same, upd_same]
  · rw [upd_ne hx, upd_ne hx, upd_ne hx]
theorem frame_free {K : KF} {ca : CF} {S : St} {μ : Nat → Addr} {H R : Hp} (L : Lay K ca S μ H R) {p : Addr} (hp : H p = none) : ca.F p = none := by
  cases e : ca.F p with
  | none => rfl
  | some o =>
    have z := (L.frm p o e).1
    rw [hp] at z
    cases z
theorem noExc_post {α β : Type} {r : Res α} {g : α → St → Res β} {P : β → St → Prop} {E : String → St → Prop} (h : ((noExc r).bind g).post P E) : r.post (fun a s => (g a s).post P E) (fun _ _ => False) := by
  cases r with
  | ok a s => exact h
  | exc c s => exact h
  | fail => exact h
theorem guard_post {α : Type} {I : Itm} {S : St} {r : Res α} {P : α → St → Prop} {E : String → St → Prop} (h : (guardI I S r).post P E) : I.ok S ∧ r.post P E := by
  unfold guardI at h
  split at h
  · exact ⟨by assumption, h⟩
  · exact False.elim h

/-! ### blocks -/
abbrev BX (X : Cx) (scope : Scope) (s : Shared) (H : Hp) (C : Addr) (cl : List (Str × Addr)) (fp : List Addr) : Cx := X.blk s H scope (compEnvC scope cl C X.env) fp
def NoX : String → Hp → Prop := fun _ _ => False
section
variable {X : Cx} {T : Tab} {ca : CF} {c : Cfg} {cw : String → Hp → Prop} {sc : SC} {ev : Ev}
theorem Amb.blk {cc : String → Addr} (A : Amb X T cc c cw) {scope : Scope} {s : Shared} {H : Hp} {C : Addr} {cl : List (Str × Addr)} {fp : List Addr} : Amb (BX X scope s H C cl fp) T cc c NoX :=
  ⟨A.calm, A.nd, A.hu, A.blt, A.glb, fun n g h1 h2 => let ⟨f, a, b, d⟩ := A.call n g h1 h2; ⟨f, a, b, ⟨d.ex⟩⟩,
    fun cl m key h => let ⟨f, g, a, b, d, e, k⟩ := A.mth cl m key h; ⟨f, g, a, b, d, e, ⟨k.ex⟩⟩,
    fun cl key h => let ⟨f, g, a, d, e, k⟩ := A.ini cl key h; ⟨f, g, a, d, e, ⟨k.ex⟩⟩, A.fls,
    fun pins σ H s e s' I ⟨_, _, _, _, _, _, _, _, _, _, _, _, _, _, _, h⟩ => h.elim⟩
theorem Fit.blk (F : Fit X sc) {scope : Scope} {s : Shared} {H : Hp} {C : Addr} {cl : List (Str × Addr)} {fp : List Addr} : Fit (BX X scope s H C cl fp) (sc.blk scope) := by
  refine ⟨F.n, ?_, rfl⟩
  show relS scope X.env.scope = relS scope sc.sc
  rw [F.s]
def gB (X : Cx) (scope : Scope) (tg : Expr) : TG := fun v σ H Q => ∀ (s : Shared) (H0 : Hp) (C : Addr) (cl : List (Str × Addr)) (fp : List Addr), wG (BX X scope s H0 C cl fp) tg v σ H Q
def tB (X : Cx) (scope : Scope) (ifs : List Expr) : TT := fun σ H Q => ∀ (s : Shared) (H0 : Hp) (C : Addr) (cl : List (Str × Addr)) (fp : List Addr), wTs (BX X scope s H0 C cl fp) ifs σ H Q
def eB (X : Cx) (scope : Scope) (e : Expr) : TE := fun σ H Q => ∀ (s : Shared) (H0 : Hp) (C : Addr) (cl : List (Str × Addr)) (fp : List Addr), wE (BX X scope s H0 C cl fp) e σ H Q
theorem gB_ok {scope : Scope} {tg : Expr} (s : Shared) (H0 : Hp) (C : Addr) (cl : List (Str × Addr)) (fp : List Addr) : PG (BX X scope s H0 C cl fp) tg (gB X scope tg) := ⟨fun pins s1 σ H v u Q I r h => h s H0 C cl fp pins s1 u I r⟩
theorem tB_ok {scope : Scope} {ifs : List Expr} (s : Shared) (H0 : Hp) (C : Addr) (cl : List (Str × Addr)) (fp : List Addr) : PTs (BX X scope s H0 C cl fp) ifs (tB X scope ifs) := ⟨fun pins s1 σ H Q I h => h s H0 C cl fp pins s1 I⟩
theorem eB_ok {scope : Scope} {e : Expr} (s : Shared) (H0 : Hp) (C : Addr) (cl : List (Str × Addr)) (fp : List Addr) : PE (BX X scope s H0 C cl fp) e (eB X scope e) := ⟨fun pins s1 σ H Q I h => h s H0 C cl fp pins s1 I⟩
theorem own_map (sc : SC) (own : List Nat) : (ownP sc own).map (·.2) = own := by
  unfold ownP
  rw [List.map_map]
  exact List.map_id own
/-- a comprehension's meaning -/
theorem comp_core {elt tg iter : Expr} {ifs : List Expr} {scope : Scope} {f : Bool} {own : List Nat} {p : Pt} {k : IK} {es : List E} {cd : Option Tst} {el : E} (hv : (ptVars p).all own.contains = true)
    (hg : ∀ s H C cl fp, SG (BX X scope s H C cl fp) ca.ca tg p) (hi : SI X ca cw tg iter (fun S => (evEs c ev es S).bind fun ws S => itM k ws S) ev)
    (ht : ∀ s H C cl fp F ev', STs (BX X scope s H C cl fp) ⟨ca.ca, F⟩ NoX ifs (evOT c ev' cd) ev') (he : ∀ s H C cl fp F ev', SE (BX X scope s H C cl fp) ⟨ca.ca, F⟩ NoX elt (evE c ev' el) ev')
    {S : St} {μ : Nat → Addr} {H R : Hp} {σ : L2.St} {Q : VK} (L : Lay X.K ca S μ H R) (G : REnv X.K μ S.n R ev σ) (h : (evE c ev (.comp f own p k es cd el) S).post (PQ X.K ca μ S.n R Q) (XQ X.K ca μ S.n R cw)) :
    tLc (wI X tg iter) (gB X scope tg) (tB X scope ifs) (eB X scope elt) own σ H Q := by
  simp only [evE] at h
  generalize hF : (fun w S => match bindPt p w (wipeE ev own) S with
        | some e' => (evOT c e' cd S).bind fun b S => if b = true then (evE c e' el S).bind fun x S => .ok (some x) S else .ok none S
        | none => .fail : W → M (Option W)) = Fn at h
  rw [Res.post_bind] at h
  refine hi S μ H R σ _ L G ?_
  rw [Res.post_bind]
  refine Res.post_mono h (fun ws S0 q => ?_) fun _ _ q => q
  rw [Res.post_bind] at q
  refine Res.post_mono q (fun I S1 q => ?_) fun _ _ q => q
  intro μ1 H1 R1 J g1 L1 fd D hD
  have q := noExc_post q
  have fF : ca.F D = none := frame_free L1 hD
  let P : List W → St → Prop := fun xs S => (mkL f xs S).post (PQ X.K ca μ S1.n R Q) (XQ X.K ca μ S1.n R cw)
  let Cst : Nat → Hp → Prop := fun i Hc => i ≤ I.ws.length ∧ ∃ S' μ' R' acc vs, Grow μ1 S1.n R1 μ' S'.n R' ∧ Lay X.K ⟨ca.ca, upd ca.F D (.lst vs)⟩ S' μ' Hc R' ∧ RVs X.K μ' S'.n R' acc vs ∧
    (compL Fn I (I.ws.drop i) acc S').post (fun xs S => (mkL f xs S).post (PQ X.K ca μ1 S1.n R1 Q) (XQ X.K ca μ1 S1.n R1 cw)) (fun _ _ => False)
  refine ⟨fun i m Hc => m = I.ws.length - i ∧ Cst i Hc, ⟨_, rfl, Nat.zero_le _, S1, μ1, R1, [], [], Grow.refl _ _ _, L1.fence hD, .nil, ?_⟩, ?_⟩
  · exact Res.post_mono q (fun xs S2 q => Res.post_mono q (fun w S3 q => PQ.grow g1 q) fun _ _ q => XQ.grow g1 q) fun _ _ q => q
  rintro i m Hc ⟨rfl, hil, S2, μ2, R2, acc, vs, g2, L2', ra, q2⟩
  by_cases hlt : i < I.ws.length
  · have ed : I.ws.drop i = I.ws[i] :: I.ws.drop (i + 1) := List.drop_eq_getElem_cons hlt
    rw [ed] at q2
    obtain ⟨ok, q2⟩ := guard_post q2
    split at q2
    · rename_i hsz
      obtain ⟨f1, f2, f3⟩ := fd _ S2 μ2 Hc R2 g2 L2' ok
      refine .inr ⟨f1 i hlt, Cst (i + 1), fun H' w' => ⟨_, by omega, rfl, w'⟩, fun x H' y => ?_⟩
      obtain ⟨R3, g3, L3, rx⟩ := f3 i x H' _ (List.getElem?_eq_getElem hlt) y
      rw [Res.post_bind, ← hF] at q2
      -- the target
      have q2 : (match bindPt p I.ws[i] (wipeE ev own) S2 with
        | some e' => (evOT c e' cd S2).bind fun b S => if b = true then (evE c e' el S).bind fun x S => .ok (some x) S else .ok none S
        | none => .fail : Res (Option W)).post (fun o S => (match o with
          | some x => compL Fn I (I.ws.drop (i + 1)) (acc ++ [x]) S
          | none => compL Fn I (I.ws.drop (i + 1)) acc S).post (fun xs S => (mkL f xs S).post (PQ X.K ca μ1 S1.n R1 Q) (XQ X.K ca μ1 S1.n R1 cw)) (fun _ _ => False)) (fun _ _ => False) := by
        rw [← hF]
        exact Res.post_mono q2 (fun o S z => by cases o <;> exact z) fun _ _ z => z
      split at q2
      · rename_i ev' eb
        have G3 : REnv X.K μ2 S2.n R3 (wipeE ev own) (L2.wipe σ own) := (G.wipe own).mono (g1.trans (g2.trans g3))
        intro s0 H0 C cl fp
        refine hg s0 H0 C cl fp _ S2 μ2 H' R3 _ ev' _ _ x _ L3 G3 rx eb fun σ2 G4 w4 => ⟨(w4 own fun i hi => by simpa using List.all_eq_true.mp hv i hi).trans wipe_idem, ?_⟩
        rw [Res.post_bind] at q2
        intro s0 H0 C cl fp
        refine ht s0 H0 C cl fp _ ev' S2 μ2 H' R3 σ2 _ L3 G4 (Res.post_mono q2 (fun b S4 q3 => ?_) fun _ _ z => z.elim)
        intro μ4 H4 R4 g4 L4
        cases b with
        | true =>
          rw [if_pos rfl] at q3 ⊢
          rw [Res.post_bind] at q3
          intro s0 H0 C cl fp
          refine he s0 H0 C cl fp _ ev' S4 μ4 H4 R4 σ2 _ L4 (G4.mono g4) (Res.post_mono q3 (fun x S5 q5 => ?_) fun _ _ z => z.elim)
          intro μ5 H5 R5 y g5 L5 ry
          have g25 := g3.trans (g4.trans g5)
          refine ⟨vs, (L5.frm D _ upd_same).1, by rw [← ra.length]; exact hsz, hlt, S5, μ5, R5, acc ++ [x], vs ++ [y], g2.trans g25, L5.refence, (ra.mono g25).append (.cons ry .nil), q5⟩
        | false =>
          rw [if_neg (by decide)] at q3 ⊢
          have g25 := g3.trans g4
          exact ⟨hlt, S4, μ4, R4, acc, vs, g2.trans g25, L4, ra.mono g25, q3⟩
      · exact False.elim q2
    · exact False.elim q2
  · have e : i = I.ws.length := Nat.le_antisymm hil (Nat.le_of_not_lt hlt)
    subst e
    rw [List.drop_length] at q2
    obtain ⟨ok, q2⟩ := guard_post q2
    obtain ⟨f1, f2, f3⟩ := fd _ S2 μ2 Hc R2 g2 L2' ok
    refine .inl ⟨f2, ?_⟩
    have q2 : (mkL f acc S2).post (PQ X.K ca μ1 S1.n R1 Q) (XQ X.K ca μ1 S1.n R1 cw) := q2
    have L3 : Lay X.K ca S2 μ2 (cutH Hc D) R2 := L2'.lift fF
    obtain ⟨_, w, S', μ', R', q, g4, L', rw'⟩ := L3.mkL cut_same ra (Res.post_mono q2 (fun w S3 q => PQ.grow g2 q) fun _ _ q => XQ.grow g2 q)
    rw [upd_cut (L2'.frm D _ upd_same).1] at L'
    exact q μ' _ R' _ g4 L' rw'
theorem s_comp (A : Amb X T ca.ca c cw) (Fx : Fit X sc) {elt tg iter : Expr} {ifs : List Expr} {scope : Scope} {pos : Pos} {f : Bool} {own : List Nat} {p : Pt} {k : IK} {es : List E} {cd : Option Tst} {el : E}
    (hb : blkC sc.N sc.sc scope (ownP sc own) = true) (hset : noSet iter = true) (hv : (ptVars p).all own.contains = true)
    (hg : ∀ s H C cl fp, SG (BX X scope s H C cl fp) ca.ca tg p) (hi : SI X ca cw tg iter (fun S => (evEs c ev es S).bind fun ws S => itM k ws S) ev)
    (ht : ∀ s H C cl fp F ev', STs (BX X scope s H C cl fp) ⟨ca.ca, F⟩ NoX ifs (evOT c ev' cd) ev') (he : ∀ s H C cl fp F ev', SE (BX X scope s H C cl fp) ⟨ca.ca, F⟩ NoX elt (evE c ev' el) ev') :
    SE X ca cw (.ListComp elt [⟨tg, iter, ifs, 0⟩] scope pos) (evE c ev (.comp f own p k es cd el)) ev := by
  intro S μ H R σ Q L G h
  have hb : BlkOk X.N X.env.scope scope (ownP sc own) := by
    rw [Fx.n, Fx.s]
    exact blkOk_by hb
  refine wE_of (pe_lc A.calm A.nd (pi tg iter) hb gB_ok tB_ok eB_ok (set_ok hset)) ?_
  rw [own_map]
  exact comp_core hv hg hi ht he L G h
end
end Py

/-! Snd9: soundness of every expression that the check lets by. -/
namespace Py
open PySem PySem.Spec PyProof.Rows L2
open Evl (Ex ex_l ex_t ex_rd fresh_back)
section
variable {X : Cx} {T : Tab} {ca : CF} {c : Cfg} {cw : String → Hp → Prop} {sc : SC} {ev : Ev}
theorem s_fz {a : E} {x : Expr} (ia : SE X ca cw x (evE c ev a) ev) : SE X ca cw x (evE c ev (.fz a)) ev := by
  intro S μ H R σ Q L G h
  simp only [evE] at h
  rw [Res.post_bind] at h
  refine ia S μ H R σ Q L G (Res.post_mono h (fun w S1 q => ?_) fun _ _ q => q)
  intro μ1 H1 R1 v g L1 r
  cases r with
  | d hd =>
    have q : (Res.ok (.d _) S1 : Res W).post (PQ X.K ca μ S.n R Q) (XQ X.K ca μ S.n R cw) := q
    exact q μ1 H1 R1 v g L1 (.d hd)
  | ref hi =>
    rename_i i
    have q : (match S1.o i with
      | some (.lst ws) => match allD ws with
        | some ds => .ok (.d (.list ds)) (S1.del i)
        | none => .fail
      | _ => .fail : Res W).post (PQ X.K ca μ S.n R Q) (XQ X.K ca μ S.n R cw) := q
    split at q
    · rename_i ws e
      split at q
      · rename_i ds ed
        obtain ⟨R2, L2, g2, dv⟩ := L1.freeze e ed
        exact q μ1 H1 R2 _ (g.trans g2) L2 (.d dv)
      · exact q.elim
    · exact q.elim
  | tup _ _ => exact False.elim q
  | scr _ => exact False.elim q
/-! ### displays -/
theorem RKs.merge {K : KF} {μ : Nat → Addr} {n : Nat} {R : Hp} : ∀ {more : List (Key × W)} {ms : List (Key × V)} {kvs : List (Key × W)} {hvs : List (Key × V)}, RKs K μ n R more ms → RKs K μ n R kvs hvs → RKs K μ n R (mergeA kvs more) (mergeK hvs ms)
  | _, _, _, _, .nil, h => h
  | _, _, kvs, hvs, .cons (a := a) (b := b) r t, h => by
    obtain ⟨k, w⟩ := a
    obtain ⟨k', v⟩ := b
    have e : k = k' := r.1
    subst e
    show RKs K μ n R (mergeA (putA kvs k w) _) (mergeK (putK hvs k v) _)
    exact RKs.merge (K := K) (μ := μ) (n := n) (R := R) t (RKs.put (k := k) r.2 h)
theorem RKs.zip {K : KF} {μ : Nat → Addr} {n : Nat} {R : Hp} : ∀ {keys : List Key} {ws : List W} {us : List V}, RVs K μ n R ws us → RKs K μ n R (keys.zip ws) (keys.zip us)
  | [], _, _, _ => .nil
  | _ :: _, _, _, .nil => .nil
  | k :: r, _, _, .cons a b => .cons ⟨rfl, a⟩ (RKs.zip b)
def trsOf (X : Cx) : List (Option Expr) → List Expr → List (TE × TE)
  | some k :: ks, v :: vs => (wE X k, wE X v) :: trsOf X ks vs
  | _, _ => []
theorem pps_of {pos : Pos} : ∀ {ks : List E} {xs : List (Option Expr)} {ys : List Expr}, chkKs ks xs = true → xs.length = ys.length → PPs X pos xs ys (trsOf X xs ys)
  | [], [], [], _, _ => pps_nil
  | [], [], _ :: _, _, h => by cases h
  | [], _ :: _, _, h, _ => by cases h
  | a :: _, [], _, h, _ => by cases a <;> cases h
  | a :: _, none :: _, _, h, _ => by cases a <;> cases h
  | _ :: _, some _ :: _, [], _, h => by cases h
  | a :: ks, some x :: xs, y :: ys, h, hl => by
    have h2 : chkKs ks xs = true := by
      cases a <;> first | cases h | skip
      cases x <;> first | cases h | skip
      rename_i d k j p
      have h : (conB d k && chkKs ks xs) = true := h
      rw [Bool.and_eq_true] at h
      exact h.2
    exact pps_cons (pe x) (pe y) (pps_of h2 (Nat.succ.inj hl))
theorem keysE_len : ∀ {ks : List E} {keys : List Key}, keysE ks = some keys → keys.length = ks.length
  | [], _, h => by cases h; rfl
  | a :: r, keys, h => by
    cases a <;> first | cases h | skip
    unfold keysE at h
    split at h
    · rename_i k ks e1 e2
      cases h
      exact congrArg Nat.succ (keysE_len e2)
    · cases h
theorem chkKs_len : ∀ {ks : List E} {xs : List (Option Expr)}, chkKs ks xs = true → ks.length = xs.length ∧ xs.all (·.isSome) = true
  | [], [], _ => ⟨rfl, rfl⟩
  | [], _ :: _, h => by cases h
  | a :: _, [], h => by cases a <;> cases h
  | a :: ks, none :: _, h => by cases a <;> cases h
  | a :: ks, some x :: xs, h => by
    cases a <;> first | cases h | skip
    cases x <;> first | cases h | skip
    rename_i d k j p
    have h : (conB d k && chkKs ks xs) = true := h
    rw [Bool.and_eq_true] at h
    obtain ⟨h1, h2⟩ := chkKs_len h.2
    exact ⟨congrArg Nat.succ h1, h2⟩
theorem pairs_ok {cw : String → Hp → Prop} : ∀ {ks : List E} {xs : List (Option Expr)} {vs : List E} {ys : List Expr} {keys : List Key}, chkKs ks xs = true → keysE ks = some keys → ks.length = vs.length → vs.length = ys.length →
    (∀ (i : Nat) a x, vs[i]? = some a → ys[i]? = some x → SE X ca cw x (evE c ev a) ev) → ∀ (S : St) (μ : Nat → Addr) (H R : Hp) (σ : L2.St) (Q : List (V × V) → Hp → Prop), Lay X.K ca S μ H R → REnv X.K μ S.n R ev σ →
      (evEs c ev vs S).post (PQs X.K ca μ S.n R fun us H' => Q ((keys.zip us).map fun p => (kV p.1, p.2)) H') (XQ X.K ca μ S.n R cw) → tPairs (trsOf X xs ys) σ H Q
  | [], [], [], [], keys, _, hk, _, _, _, S, μ, H, R, σ, Q, L, G, h => by
    cases hk
    simp only [evEs] at h
    exact h μ H R [] (Grow.refl _ _ _) L .nil
  | a :: ks, some x :: xs, v :: vs, y :: ys, keys, hc, hk, l1, l2, ih, S, μ, H, R, σ, Q, L, G, h => by
    cases a <;> first | (cases hc; done) | skip
    cases x <;> first | (cases hc; done) | skip
    rename_i d k j p
    have hc : (conB d k && chkKs ks xs) = true := hc
    rw [Bool.and_eq_true] at hc
    unfold keysE at hk
    split at hk
    · rename_i key keys' k1 k2
      cases hk
      show wE X (.Constant k j p) σ H fun x H1 => wE X y σ H1 fun y H2 => tPairs (trsOf X xs ys) σ H2 fun ps H3 => Q ((x, y) :: ps) H3
      have hd : scalD d = true := by
        cases d <;> first | rfl | cases k1
      refine s_con (ca := ca) (cw := cw) (c := c) (ev := ev) (j := j) (p := p) hc.1 S μ H R σ _ L G ?_
      simp only [evE]
      rw [if_pos hd]
      intro μ1 H1 R1 u g1 L1 r1
      have eu : u = kV key := keyW_kV r1 k1
      subst eu
      simp only [evEs] at h
      rw [Res.post_bind] at h
      have h := Res.post_mono h (fun w S2 q => Res.post_bind ▸ q) (fun c s q => XQ.grow (S1 := S) g1 q)
      refine ih 0 v y rfl rfl S μ1 H1 R1 σ _ L1 (G.mono g1) (Res.post_mono h (fun w S2 q => ?_) fun _ _ q => q)
      intro μ2 H2 R2 u2 g2 L2 r2
      have g12 := g1.trans g2
      refine pairs_ok hc.2 k2 (Nat.succ.inj l1) (Nat.succ.inj l2) (fun i a x e1 e2 => ih (i + 1) a x (by simpa using e1) (by simpa using e2)) S2 μ2 H2 R2 σ _ L2 (G.mono g12) (Res.post_mono q (fun ws S3 q => ?_) fun _ _ q => XQ.grow g12 q)
      intro μ3 H3 R3 us g3 L3 r3
      exact q μ3 H3 R3 (u2 :: us) (g12.trans g3) L3 (.cons (r2.mono g3) r3)
    · cases hk
  | [], [], _ :: _, _, _, _, _, l1, _, _, _, _, _, _, _, _, _, _, _ => by cases l1
  | [], [], [], _ :: _, _, _, _, _, l2, _, _, _, _, _, _, _, _, _, _ => by cases l2
  | [], _ :: _, _, _, _, hc, _, _, _, _, _, _, _, _, _, _, _, _, _ => by cases hc
  | a :: _, [], _, _, _, hc, _, _, _, _, _, _, _, _, _, _, _, _, _ => by cases a <;> cases hc
  | a :: _, none :: _, _, _, _, hc, _, _, _, _, _, _, _, _, _, _, _, _, _ => by cases a <;> cases hc
  | _ :: _, some _ :: _, [], _, _, _, _, l1, _, _, _, _, _, _, _, _, _, _, _ => by cases l1
  | _ :: _, some _ :: _, _ :: _, [], _, _, _, _, l2, _, _, _, _, _, _, _, _, _, _ => by cases l2
theorem s_disp {ks vs : List E} {xs : List (Option Expr)} {ys : List Expr} {p : Pos} (hc : chkKs ks xs = true) (hl : vs.length = ys.length) (ih : ∀ (i : Nat) a x, vs[i]? = some a → ys[i]? = some x → SE X ca cw x (evE c ev a) ev) :
    SE X ca cw (.Dict xs ys p) (evE c ev (.disp ks vs)) ev := by
  intro S μ H R σ Q L G h
  simp only [evE] at h
  split at h
  · rename_i keys hk
    split at h
    · rename_i hcond
      obtain ⟨n1, n2, n3⟩ := hcond
      obtain ⟨cl, ca2⟩ := chkKs_len hc
      have kl := keysE_len hk
      refine wE_of (pe_disp (pps_of hc (by omega)) ca2 (by omega) (fun z => n2 (List.length_eq_zero_iff.mp (by rw [kl, cl, z]; rfl))) (by omega)) fun q hq => ?_
      have g0 := L.grow_push q
      have L1 := L.newS (o := .dK []) (h := .dK []) hq (.dK .nil)
      rw [Res.post_bind] at h
      refine pairs_ok hc hk (by omega) hl ih (S.push (.dK [])) _ _ R σ _ L1 (G.mono g0) (Res.post_mono h (fun ws S1 h1 => ?_) fun _ _ z => XQ.grow g0 z)
      intro μ1 H1 R1 us g1 L2' r
      have g01 := g0.trans g1
      have em : μ1 S.n = q := by
        rw [g1.eq S.n (Nat.lt_succ_self _)]
        exact ext_same
      unfold dispM at h1
      split at h1
      · rename_i e1
        obtain ⟨hh, e2, z⟩ := L2'.hol S.n _ e1
        rw [em] at e2
        cases z with
        | dK z =>
          cases z
          refine ⟨e2, keys.zip us, rfl, by rw [List.length_zip]; omega, ?_⟩
          have L3 := L2'.put e1 (.dK (RKs.merge (RKs.zip (keys := keys) r) .nil))
          rw [em] at L3
          have rr : RV X.K μ1 (S1.set S.n (.dK (mergeA [] (keys.zip ws)))).n R1 (.ref S.n) (.ref (μ1 S.n)) := .ref (L2'.dom S.n _ e1)
          rw [em] at rr
          exact h1 μ1 _ R1 _ g01 L3 rr
      · exact h1.elim
    · exact h.elim
  · exact h.elim
theorem chkEs_st : ∀ {es : List E} {xs : List Expr}, chkEs T sc es xs = true → stars xs = true ∧ es.length = xs.length
  | [], [], _ => ⟨rfl, rfl⟩
  | [], _ :: _, h => by cases h
  | _ :: _, [], h => by cases h
  | a :: r, x :: q, h => by
    have h : (noStar x && chkE T sc a x && chkEs T sc r q) = true := h
    rw [Bool.and_eq_true, Bool.and_eq_true] at h
    obtain ⟨h1, h2⟩ := chkEs_st h.2
    refine ⟨?_, congrArg Nat.succ h2⟩
    show (noStar x && stars q) = true
    rw [h.1.1, h1]
    rfl
theorem si_all (A : Amb X T ca.ca c cw) (F : Fit X sc) {k : IK} {tg it : Expr} {xs : List Expr} {es : List E} (e : itX sc k tg it = some xs) (hc : chkEs T sc es xs = true) (ih : SA X ca cw xs (evEs c ev es) ev)
    (i1 : ∀ a, es = [a] → SE X ca cw it (evE c ev a) ev ∨ k ≠ .seq) : SI X ca cw tg it (fun S => (evEs c ev es S).bind fun ws S => itM k ws S) ev := by
  obtain ⟨st, hl⟩ := chkEs_st hc
  unfold itX at e
  split at e
  · cases e
    obtain ⟨a, rfl⟩ : ∃ a, es = [a] := by
      match es, hl with
      | [a], _ => exact ⟨a, rfl⟩
    exact si_seq ((i1 a rfl).resolve_right fun z => z rfl)
  · split at e
    · rename_i h
      cases e
      simp only [Bool.and_eq_true, decide_eq_true_eq] at h
      obtain ⟨rfl, h2⟩ := h
      simp only [stars, List.all_cons, List.all_nil, Bool.and_true] at st
      exact si_r1 A F h2 st ih
    · cases e
  · split at e
    · rename_i h
      cases e
      simp only [Bool.and_eq_true, decide_eq_true_eq] at h
      obtain ⟨rfl, h2⟩ := h
      simp only [stars, List.all_cons, List.all_nil, Bool.and_true, Bool.and_eq_true] at st
      exact si_r2 A F h2 st.1 st.2 ih
    · cases e
  · split at e
    · rename_i h
      cases e
      simp only [Bool.and_eq_true, decide_eq_true_eq] at h
      obtain ⟨rfl, h2⟩ := h
      simp only [stars, List.all_cons, List.all_nil, Bool.and_true] at st
      exact si_rev A F h2 st ih
    · cases e
  · split at e
    · rename_i h
      cases e
      simp only [Bool.and_eq_true, decide_eq_true_eq] at h
      obtain ⟨⟨rfl, h2⟩, ht⟩ := h
      simp only [stars, List.all_cons, List.all_nil, Bool.and_true] at st
      cases tg with
      | Tuple _ _ _ => exact si_enum A F h2 st ih
      | _ => cases ht
    · cases e
  · split at e
    · rename_i h
      cases e
      simp only [Bool.and_eq_true, decide_eq_true_eq] at h
      obtain ⟨⟨rfl, h2⟩, ht⟩ := h
      simp only [stars, List.all_cons, List.all_nil, Bool.and_true, Bool.and_eq_true] at st
      cases tg with
      | Tuple _ _ _ => exact si_zip A F h2 st.1 st.2 ih
      | _ => cases ht
    · cases e
  · cases e
end
def GE (T : Tab) (cc : String → Addr) (c : Cfg) (sc : SC) (a : E) (x : Expr) : Prop := ∀ (X : Cx) (F : Hp) (cw : String → Hp → Prop) (ev : Ev), Amb X T cc c cw → Fit X sc → SE X ⟨cc, F⟩ cw x (evE c ev a) ev
def GA (T : Tab) (cc : String → Addr) (c : Cfg) (sc : SC) (es : List E) (xs : List Expr) : Prop := (∀ (i : Nat) a x, es[i]? = some a → xs[i]? = some x → GE T cc c sc a x) ∧ ∀ (X : Cx) (F : Hp) (cw : String → Hp → Prop) (ev : Ev), Amb X T cc c cw → Fit X sc → SA X ⟨cc, F⟩ cw xs (evEs c ev es) ev
def GO (T : Tab) (cc : String → Addr) (c : Cfg) (sc : SC) (a : Option E) (x : Option Expr) : Prop := ∀ (X : Cx) (F : Hp) (cw : String → Hp → Prop) (ev : Ev), Amb X T cc c cw → Fit X sc → SO X ⟨cc, F⟩ cw x (evO c ev a) ev
def GT (T : Tab) (cc : String → Addr) (c : Cfg) (sc : SC) (a : Tst) (x : Expr) : Prop := ∀ (X : Cx) (F : Hp) (cw : String → Hp → Prop) (ev : Ev), Amb X T cc c cw → Fit X sc → ST X ⟨cc, F⟩ cw x (evT c ev a) ev
def GTs (T : Tab) (cc : String → Addr) (c : Cfg) (sc : SC) (a : Option Tst) (x : List Expr) : Prop := ∀ (X : Cx) (F : Hp) (cw : String → Hp → Prop) (ev : Ev), Amb X T cc c cw → Fit X sc → STs X ⟨cc, F⟩ cw x (evOT c ev a) ev
mutual
theorem sndE (T : Tab) (cc : String → Addr) (c : Cfg) : ∀ (a : E) (sc : SC) (x : Expr), chkE T sc a x = true → GE T cc c sc a x
  | .v i, sc, x, h => by
    cases x with
    | Name x p =>
      have h : (slotB sc i x && visB sc.sc x) = true := h
      rw [Bool.and_eq_true] at h
      exact fun X F cw ev A Fx => s_var A Fx h.1 h.2
    | _ => cases h
  | .k d, sc, x, h => by
    cases x with
    | Constant k j p => exact fun X F cw ev A Fx => s_con h
    | _ => cases h
  | .g n, sc, x, h => by
    cases x with
    | Name x p =>
      have h : (decide (x = Str.ofString n) && glB sc.sc x && plainN x) = true := h
      simp only [Bool.and_eq_true, decide_eq_true_eq] at h
      exact fun X F cw ev A Fx => s_glob A Fx h.1.1 h.1.2 h.2
    | _ => cases h
  | .tup es, sc, x, h => by
    cases x with
    | Tuple xs k p => exact fun X F cw ev A Fx => s_tup ((sndEs T cc c es sc xs h).2 X F cw ev A Fx)
    | _ => cases h
  | .lst f es, sc, x, h => by
    cases x with
    | List xs p => exact fun X F cw ev A Fx => s_lst ((sndEs T cc c es sc xs h).2 X F cw ev A Fx)
    | _ => cases h
  | .dK, sc, x, h => by
    cases x with
    | Dict ks vs p =>
      cases ks <;> cases vs <;> first | (cases h; done) | exact fun X F cw ev A Fx => s_dK
    | _ => cases h
  | .dT, sc, x, h => by
    cases x with
    | Dict ks vs p =>
      cases ks <;> cases vs <;> first | (cases h; done) | exact fun X F cw ev A Fx => s_dT
    | _ => cases h
  | .disp ks vs, sc, x, h => by
    cases x with
    | Dict xs ys p =>
      have h2 : (chkKs ks xs && chkEs T sc vs ys) = true := by
        cases xs <;> cases ys <;> exact h
      rw [Bool.and_eq_true] at h2
      have q := sndEs T cc c vs sc ys h2.2
      exact fun X F cw ev A Fx => s_disp h2.1 (chkEs_st h2.2).2 fun i a x e1 e2 => q.1 i a x e1 e2 X F cw ev A Fx
    | _ => cases h
  | .bin f op a b, sc, x, h => by
    cases x with
    | BinOp x o y p =>
      have h : (bopB op o && chkE T sc a x && chkE T sc b y) = true := h
      simp only [Bool.and_eq_true] at h
      obtain ⟨⟨h1, h2⟩, h3⟩ := h
      cases bopB_ok h1
      exact fun X F cw ev A Fx => s_bin (sndE T cc c a sc x h2 X F cw ev A Fx) (sndE T cc c b sc y h3 X F cw ev A Fx)
    | _ => cases h
  | .neg a, sc, x, h => by
    cases x with
    | UnaryOp o x p =>
      cases o with
      | USub => exact fun X F cw ev A Fx => s_neg (sndE T cc c a sc x h X F cw ev A Fx)
      | _ => cases h
    | _ => cases h
  | .cmp op a b, sc, x, h => by
    cases x with
    | Compare x os ys p =>
      match os, ys, h with
      | [o], [y], h =>
        have h : (copB op o && !behindInMarks o y && chkE T sc a x && chkE T sc b y) = true := h
        simp only [Bool.and_eq_true, Bool.not_eq_true'] at h
        obtain ⟨⟨⟨h1, h2⟩, h3⟩, h4⟩ := h
        cases copB_ok h1
        exact fun X F cw ev A Fx => s_cmp A h2 (sndE T cc c a sc x h3 X F cw ev A Fx) (sndE T cc c b sc y h4 X F cw ev A Fx)
      | [], _, h => cases h
      | _ :: _ :: _, _, h => cases h
      | [_], [], h => cases h
      | [_], _ :: _ :: _, h => cases h
    | _ => cases h
  | .chain op op' a b d, sc, x, h => by
    cases x with
    | Compare x os ys p =>
      match os, ys, h with
      | [o, o'], [y, z], h =>
        have h : (copB op o && copB op' o' && !lastMarks [o, o'] [y, z] && chkE T sc a x && chkE T sc b y && chkE T sc d z) = true := h
        simp only [Bool.and_eq_true, Bool.not_eq_true'] at h
        obtain ⟨⟨⟨⟨⟨h1, h1'⟩, h2⟩, h3⟩, h4⟩, h5⟩ := h
        cases copB_ok h1
        cases copB_ok h1'
        exact fun X F cw ev A Fx => s_chain A h2 (sndE T cc c a sc x h3 X F cw ev A Fx) (sndE T cc c b sc y h4 X F cw ev A Fx) (sndE T cc c d sc z h5 X F cw ev A Fx)
      | [], _, h => cases h
      | [_], _, h => cases h
      | _ :: _ :: _ :: _, _, h => cases h
      | [_, _], [], h => cases h
      | [_, _], [_], h => cases h
      | [_, _], _ :: _ :: _ :: _, h => cases h
    | _ => cases h
  | .and a b, sc, x, h => by
    cases x with
    | BoolOp o xs p =>
      match o, xs, h with
      | .And, [x, y], h =>
        have h : (chkE T sc a x && chkE T sc b y) = true := h
        simp only [Bool.and_eq_true] at h
        exact fun X F cw ev A Fx => s_and (sndE T cc c a sc x h.1 X F cw ev A Fx) (s_bone (sndE T cc c b sc y h.2 X F cw ev A Fx))
      | .And, x :: y :: z :: r, h =>
        have h : (chkE T sc a x && chkE T sc b (.BoolOp .And (y :: z :: r) p)) = true := h
        simp only [Bool.and_eq_true] at h
        exact fun X F cw ev A Fx => s_and (sndE T cc c a sc x h.1 X F cw ev A Fx) (sndE T cc c b sc _ h.2 X F cw ev A Fx)
      | .And, [], h => cases h
      | .And, [_], h => cases h
      | .Or, _, h => cases h
    | _ => cases h
  | .or a b, sc, x, h => by
    cases x with
    | BoolOp o xs p =>
      match o, xs, h with
      | .Or, [x, y], h =>
        have h : (chkE T sc a x && chkE T sc b y) = true := h
        simp only [Bool.and_eq_true] at h
        exact fun X F cw ev A Fx => s_or (sndE T cc c a sc x h.1 X F cw ev A Fx) (s_bone (sndE T cc c b sc y h.2 X F cw ev A Fx))
      | .Or, x :: y :: z :: r, h =>
        have h : (chkE T sc a x && chkE T sc b (.BoolOp .Or (y :: z :: r) p)) = true := h
        simp only [Bool.and_eq_true] at h
        exact fun X F cw ev A Fx => s_or (sndE T cc c a sc x h.1 X F cw ev A Fx) (sndE T cc c b sc _ h.2 X F cw ev A Fx)
      | .Or, [], h => cases h
      | .Or, [_], h => cases h
      | .And, _, h => cases h
    | _ => cases h
  | .not a, sc, x, h => by
    cases x with
    | UnaryOp o x p =>
      cases o with
      | Not => exact fun X F cw ev A Fx => s_not (sndE T cc c a sc x h X F cw ev A Fx)
      | _ => cases h
    | _ => cases h
  | .ite t a b, sc, x, h => by
    cases x with
    | IfExp x y z p =>
      have h : (chkT T sc t x && chkE T sc a y && chkE T sc b z) = true := h
      simp only [Bool.and_eq_true] at h
      exact fun X F cw ev A Fx => s_ite (sndT T cc c t sc x h.1.1 X F cw ev A Fx) (sndE T cc c a sc y h.1.2 X F cw ev A Fx) (sndE T cc c b sc z h.2 X F cw ev A Fx)
    | _ => cases h
  | .ix a i, sc, x, h => by
    cases x with
    | Subscript x y p =>
      have h : (noSlice y && chkE T sc a x && chkE T sc i y) = true := h
      simp only [Bool.and_eq_true] at h
      exact fun X F cw ev A Fx => s_ix A h.1.1 (sndE T cc c a sc x h.1.2 X F cw ev A Fx) (sndE T cc c i sc y h.2 X F cw ev A Fx)
    | _ => cases h
  | .sl f a lo hi, sc, x, h => by
    cases x with
    | Subscript x y p =>
      cases y with
      | Slice l r st p2 =>
        cases st with
        | none =>
          have h : (chkE T sc a x && chkO T sc lo l && chkO T sc hi r) = true := h
          simp only [Bool.and_eq_true] at h
          exact fun X F cw ev A Fx => s_sl (sndE T cc c a sc x h.1.1 X F cw ev A Fx) (sndO T cc c lo sc l h.1.2 X F cw ev A Fx) (sndO T cc c hi sc r h.2 X F cw ev A Fx)
        | some _ => cases h
      | _ => cases h
    | _ => cases h
  | .rv _ _, sc, x, h => by cases x <;> cases h
  | .fld a f, sc, x, h => by
    cases x with
    | Attribute x n p =>
      have h : (decide (n = Str.ofString f) && noCall0 x && chkE T sc a x) = true := h
      simp only [Bool.and_eq_true, decide_eq_true_eq] at h
      obtain ⟨⟨rfl, h2⟩, h3⟩ := h
      exact fun X F cw ev A Fx => s_fld A h2 (sndE T cc c a sc x h3 X F cw ev A Fx)
    | _ => cases h
  | .call n es ds, sc, x, h => by
    cases x with
    | Call f xs ks pos =>
      cases f with
      | Name x p =>
        cases ks with
        | nil =>
          have h : (decide (x = Str.ofString n) && glB sc.sc x && plainN x && !T.own.contains n && fillB (T.sig n) ds && chkEs T sc es xs) = true := h
          simp only [Bool.and_eq_true, decide_eq_true_eq, Bool.not_eq_true'] at h
          obtain ⟨⟨⟨⟨⟨h1, h2⟩, h3⟩, h4⟩, h5⟩, h6⟩ := h
          obtain ⟨st, hl⟩ := chkEs_st h6
          exact fun X F cw ev A Fx => s_call A Fx h1 h2 h3 h4 h5 st hl ((sndEs T cc c es sc xs h6).2 X F cw ev A Fx)
        | cons _ _ => cases h
      | _ => cases h
    | _ => cases h
  | .new n es, sc, x, h => by
    cases x with
    | Call f xs ks pos =>
      cases f with
      | Name x p =>
        cases ks with
        | nil =>
          have h : (decide (x = Str.ofString n) && glB sc.sc x && plainN x && chkEs T sc es xs) = true := h
          simp only [Bool.and_eq_true, decide_eq_true_eq] at h
          obtain ⟨⟨⟨h1, h2⟩, h3⟩, h6⟩ := h
          obtain ⟨st, hl⟩ := chkEs_st h6
          exact fun X F cw ev A Fx => s_new A Fx h1 h2 h3 st hl ((sndEs T cc c es sc xs h6).2 X F cw ev A Fx)
        | cons _ _ => cases h
      | _ => cases h
    | _ => cases h
  | .om a m es ds, sc, x, h => by
    cases x with
    | Call f xs ks pos =>
      cases f with
      | Attribute o x ap =>
        cases ks with
        | nil =>
          have h : (decide (x = Str.ofString m) && noCall0 o && decide (xs.length < 29) && (ap.endLine == pos.line) && (T.mkeys m).all (fun k => fillB (T.sig k) ds) && chkE T sc a o && chkEs T sc es xs) = true := h
          simp only [Bool.and_eq_true, decide_eq_true_eq] at h
          obtain ⟨⟨⟨⟨⟨⟨rfl, h2⟩, h3⟩, h4⟩, h5⟩, h6⟩, h7⟩ := h
          obtain ⟨st, hl⟩ := chkEs_st h7
          exact fun X F cw ev A Fx => s_om A h2 h3 h4 (fun k hk => List.all_eq_true.mp h5 k hk) st hl (sndE T cc c a sc o h6 X F cw ev A Fx) ((sndEs T cc c es sc xs h7).2 X F cw ev A Fx)
        | cons _ _ => cases h
      | _ => cases h
    | _ => cases h
  | .ucall _ _ _, sc, x, h => by cases x <;> cases h
  | .bm f a m es, sc, x, h => by
    cases x with
    | Call g xs ks pos =>
      cases g with
      | Attribute o x ap =>
        cases ks with
        | nil =>
          have h : (decide (x = m.nm) && noCall0 o && decide (xs.length < 29) && (ap.endLine == pos.line) && chkE T sc a o && chkEs T sc es xs) = true := h
          simp only [Bool.and_eq_true, decide_eq_true_eq] at h
          obtain ⟨⟨⟨⟨⟨rfl, h2⟩, h3⟩, h4⟩, h6⟩, h7⟩ := h
          obtain ⟨st, hl⟩ := chkEs_st h7
          exact fun X F cw ev A Fx => s_bm A h2 h3 h4 st hl (sndE T cc c a sc o h6 X F cw ev A Fx) ((sndEs T cc c es sc xs h7).2 X F cw ev A Fx)
        | cons _ _ => cases h
      | _ => cases h
    | _ => cases h
  | .bi f b es, sc, x, h => by
    cases x with
    | Call g xs ks pos =>
      cases g with
      | Name x p =>
        match xs, ks, h with
        | y :: ys, [], h =>
          have h : (decide (x = Str.ofString b.nm) && glB sc.sc x && chkEs T sc es (y :: ys)) = true := h
          simp only [Bool.and_eq_true, decide_eq_true_eq] at h
          obtain ⟨⟨rfl, h2⟩, h3⟩ := h
          exact fun X F cw ev A Fx => s_bi A Fx h2 (chkEs_st h3).1 ((sndEs T cc c es sc _ h3).2 X F cw ev A Fx)
        | [], _, h => cases h
        | _ :: _, _ :: _, h => cases h
      | _ => cases h
    | _ => cases h
  | .isin a ts, sc, x, h => by
    match ts, h with
    | [], h => cases x <;> cases h
    | _ :: _ :: _, h => cases x <;> cases h
    | [t], h =>
    cases x with
    | Call g xs ks pos =>
      cases g with
      | Name x p =>
        match xs, ks, h with
        | [y, z], [], h =>
          cases z with
          | Name n p2 =>
            have h : (decide (x = "isinstance") && glB sc.sc x && noStar y && chkE T sc a y && (decide (n = Str.ofString t) && glB sc.sc n)) = true := h
            simp only [Bool.and_eq_true, decide_eq_true_eq] at h
            obtain ⟨⟨⟨⟨rfl, h2⟩, h3⟩, h4⟩, rfl, h5⟩ := h
            exact fun X F cw ev A Fx => s_isin A Fx h2 h3 h5 (sndE T cc c a sc y h4 X F cw ev A Fx)
          | _ =>
            have h : (decide (x = "isinstance") && glB sc.sc x && noStar y && chkE T sc a y && false) = true := h
            rw [Bool.and_false] at h
            cases h
        | [], _, h => cases h
        | [_], _, h => cases h
        | _ :: _ :: _ :: _, _, h => cases h
        | [_, _], _ :: _, h => cases h
      | _ => cases h
    | _ => cases h
  | .comp f own p k es cd el, sc, x, h => by
    cases x with
    | ListComp e gs scope pos =>
      match gs, h with
      | [⟨tg, it, ifs, .ofNat 0⟩], h =>
        have h : (blkC sc.N sc.sc scope (ownP sc own) && noSet it && (ptVars p).all own.contains && chkPt (sc.blk scope) p tg && (match itX sc k tg it with
          | some xs => chkEs T sc es xs
          | none => false) && chkOT T (sc.blk scope) cd ifs && chkE T (sc.blk scope) el e) = true := h
        simp only [Bool.and_eq_true] at h
        obtain ⟨⟨⟨⟨⟨⟨h1, h2⟩, h3⟩, h4⟩, h5⟩, h6⟩, h7⟩ := h
        cases ex : itX sc k tg it with
        | none =>
          rw [ex] at h5
          cases h5
        | some xs =>
          rw [ex] at h5
          intro X F cw ev A Fx
          refine s_comp (ca := ⟨cc, F⟩) A Fx h1 h2 h3 (fun s H C cl fp => sg (X := BX X scope s H C cl fp) A.calm A.nd Fx.blk p tg h4) (si_all A Fx ex h5 ((sndEs T cc c es sc xs h5).2 X F cw ev A Fx) fun a e1 => ?_)
            (fun s H C cl fp F' ev' => sndOT T cc c cd (sc.blk scope) ifs h6 _ F' NoX ev' (A.blk (X := X)) Fx.blk) fun s H C cl fp F' ev' => sndE T cc c el (sc.blk scope) e h7 _ F' NoX ev' A.blk Fx.blk
          by_cases hk : k = .seq
          · subst hk
            cases ex
            exact .inl ((sndEs T cc c es sc [it] h5).1 0 a it (by rw [e1]; rfl) rfl X F cw ev A Fx)
          · exact .inr hk
      | [], h => cases h
      | ⟨_, _, _, .ofNat 0⟩ :: _ :: _, h => cases h
      | ⟨_, _, _, .ofNat (n + 1)⟩ :: _ :: _, h => cases h
      | ⟨_, _, _, .negSucc n⟩ :: _ :: _, h => cases h
      | [⟨tg, it, ifs, .ofNat (n + 1)⟩], h => cases h
      | [⟨tg, it, ifs, .negSucc n⟩], h => cases h
    | _ => cases h
  | .fz a, sc, x, h => by
    have h : chkE T sc a x = true := by cases x <;> exact h
    exact fun X F cw ev A Fx => s_fz (sndE T cc c a sc x h X F cw ev A Fx)
theorem sndEs (T : Tab) (cc : String → Addr) (c : Cfg) : ∀ (a : List E) (sc : SC) (x : List Expr), chkEs T sc a x = true → GA T cc c sc a x
  | [], sc, xs, h => by
    cases xs with
    | nil => exact ⟨fun i a x e => (by simp at e), fun X F cw ev A Fx => sa_nil⟩
    | cons _ _ => cases h
  | a :: r, sc, xs, h => by
    cases xs with
    | nil => cases h
    | cons x q =>
      have h : (noStar x && chkE T sc a x && chkEs T sc r q) = true := h
      simp only [Bool.and_eq_true] at h
      refine ⟨fun i a' x' e e' => ?_, fun X F cw ev A Fx => sa_cons h.1.1 (sndE T cc c a sc x h.1.2 X F cw ev A Fx) ((sndEs T cc c r sc q h.2).2 X F cw ev A Fx)⟩
      cases i with
      | zero =>
        have q := sndE T cc c a sc x h.1.2
        cases e
        cases e'
        exact q
      | succ i => exact (sndEs T cc c r sc q h.2).1 i a' x' (by simpa using e) (by simpa using e')
theorem sndO (T : Tab) (cc : String → Addr) (c : Cfg) : ∀ (a : Option E) (sc : SC) (x : Option Expr), chkO T sc a x = true → GO T cc c sc a x
  | none, sc, x, h => by
    cases x with
    | none => exact fun X F cw ev A Fx => so_none
    | some _ => cases h
  | some a, sc, x, h => by
    cases x with
    | none => cases h
    | some x => exact fun X F cw ev A Fx => so_some (sndE T cc c a sc x h X F cw ev A Fx)
theorem sndOT (T : Tab) (cc : String → Addr) (c : Cfg) : ∀ (a : Option Tst) (sc : SC) (x : List Expr), chkOT T sc a x = true → GTs T cc c sc a x
  | none, sc, x, h => by
    match x, h with
    | [], _ => exact fun X F cw ev A Fx => sts_none
    | _ :: _, h => cases h
  | some a, sc, x, h => by
    match x, h with
    | [x], h => exact fun X F cw ev A Fx => sts_some (sndT T cc c a sc x h X F cw ev A Fx)
    | [], h => cases h
    | _ :: _ :: _, h => cases h
theorem sndT (T : Tab) (cc : String → Addr) (c : Cfg) : ∀ (a : Tst) (sc : SC) (x : Expr), chkT T sc a x = true → GT T cc c sc a x
  | .e a, sc, x, h => by
    have h : (tstB a x && chkE T sc a x) = true := h
    rw [Bool.and_eq_true] at h
    obtain ⟨h1, h⟩ := h
    have ih := sndE T cc c a sc x h
    cases a with
    | cmp op a b =>
      cases x with
      | Compare x os ys p =>
        match os, ys, h with
        | [o], [y], h =>
          have h : (copB op o && !behindInMarks o y && chkE T sc a x && chkE T sc b y) = true := h
          simp only [Bool.and_eq_true, Bool.not_eq_true'] at h
          obtain ⟨⟨⟨h1, h2⟩, h3⟩, h4⟩ := h
          cases copB_ok h1
          exact fun X F cw ev A Fx => st_cmp A h2 (sndE T cc c a sc x h3 X F cw ev A Fx) (sndE T cc c b sc y h4 X F cw ev A Fx)
        | [], _, h => cases h
        | _ :: _ :: _, _, h => cases h
        | [_], [], h => cases h
        | [_], _ :: _ :: _, h => cases h
      | _ => cases h
    | chain op op' a b d =>
      cases x with
      | Compare x os ys p =>
        match os, ys, h with
        | [o, o'], [y, z], h =>
          have h : (copB op o && copB op' o' && !lastMarks [o, o'] [y, z] && chkE T sc a x && chkE T sc b y && chkE T sc d z) = true := h
          simp only [Bool.and_eq_true, Bool.not_eq_true'] at h
          obtain ⟨⟨⟨⟨⟨h1, h1'⟩, h2⟩, h3⟩, h4⟩, h5⟩ := h
          cases copB_ok h1
          cases copB_ok h1'
          exact fun X F cw ev A Fx => st_chain A h2 (sndE T cc c a sc x h3 X F cw ev A Fx) (sndE T cc c b sc y h4 X F cw ev A Fx) (sndE T cc c d sc z h5 X F cw ev A Fx)
        | [], _, h => cases h
        | [_], _, h => cases h
        | _ :: _ :: _ :: _, _, h => cases h
        | [_, _], [], h => cases h
        | [_, _], [_], h => cases h
        | [_, _], _ :: _ :: _ :: _, h => cases h
      | _ => cases h
    | _ => exact fun X F cw ev A Fx => st_val h1 (ih X F cw ev A Fx)
  | .and a b, sc, x, h => by
    cases x with
    | BoolOp o xs p =>
      match o, xs, h with
      | .And, [x, y], h =>
        have h : (chkT T sc a x && chkT T sc b y) = true := h
        simp only [Bool.and_eq_true] at h
        exact fun X F cw ev A Fx => st_and (sndT T cc c a sc x h.1 X F cw ev A Fx) (st_one (sndT T cc c b sc y h.2 X F cw ev A Fx))
      | .And, x :: y :: z :: r, h =>
        have h : (chkT T sc a x && chkT T sc b (.BoolOp .And (y :: z :: r) p)) = true := h
        simp only [Bool.and_eq_true] at h
        exact fun X F cw ev A Fx => st_and (sndT T cc c a sc x h.1 X F cw ev A Fx) (sndT T cc c b sc _ h.2 X F cw ev A Fx)
      | .And, [], h => cases h
      | .And, [_], h => cases h
      | .Or, _, h => cases h
    | _ => cases h
  | .or a b, sc, x, h => by
    cases x with
    | BoolOp o xs p =>
      match o, xs, h with
      | .Or, [x, y], h =>
        have h : (chkT T sc a x && chkT T sc b y) = true := h
        simp only [Bool.and_eq_true] at h
        exact fun X F cw ev A Fx => st_or (sndT T cc c a sc x h.1 X F cw ev A Fx) (st_one (sndT T cc c b sc y h.2 X F cw ev A Fx))
      | .Or, x :: y :: z :: r, h =>
        have h : (chkT T sc a x && chkT T sc b (.BoolOp .Or (y :: z :: r) p)) = true := h
        simp only [Bool.and_eq_true] at h
        exact fun X F cw ev A Fx => st_or (sndT T cc c a sc x h.1 X F cw ev A Fx) (sndT T cc c b sc _ h.2 X F cw ev A Fx)
      | .Or, [], h => cases h
      | .Or, [_], h => cases h
      | .And, _, h => cases h
    | _ => cases h
  | .not a, sc, x, h => by
    cases x with
    | UnaryOp o x p =>
      cases o with
      | Not => exact fun X F cw ev A Fx => st_not (sndT T cc c a sc x h X F cw ev A Fx)
      | _ => cases h
    | _ => cases h
end
end Py

/-! Snd10: soundness of statements, by kinds. -/
namespace Py
open PySem PySem.Spec PyProof.Rows L2
open Evl (Ex ex_l ex_t ex_rd fresh_back)

/-- the surroundings of statements -/
structure AmbS (X : Cx) (T : Tab) (cc : String → Addr) (c : Cfg) (cw : String → Hp → Prop) : Prop where
  A : Amb X T cc c cw
  tk : Takes X (fun cls d _ H => EX cc cw cls d H)
  po : PassesOwn (model X.prog X.w) X.A X.env X.xe
  exc : ∀ n, T.excs.contains n = true → ∃ B newId initId bmB, ExcBaseFacts B newId initId bmB ∧ PySem.W.excIn X.K (cc n) bmB newId = true ∧ X.mg (Str.ofString n) = some (.ref (cc n)) ∧ PySem.W.keepIn X.K (.ref (cc n)) = true ∧ Raises X (.ref (cc n))
/-- what becomes of a statement's end -/
def PFl (K : KF) (ca : CF) (μ : Nat → Addr) (n : Nat) (R : Hp) (D : Ends) : Fl → St → Prop
  | .nx e, S' => ∀ μ' H' R' σ', Grow μ n R μ' S'.n R' → Lay K ca S' μ' H' R' → REnv K μ' S'.n R' e σ' → D.nx σ' H'
  | .bk e, S' => ∀ μ' H' R' σ', Grow μ n R μ' S'.n R' → Lay K ca S' μ' H' R' → REnv K μ' S'.n R' e σ' → D.bk σ' H'
  | .ct e, S' => ∀ μ' H' R' σ', Grow μ n R μ' S'.n R' → Lay K ca S' μ' H' R' → REnv K μ' S'.n R' e σ' → D.ct σ' H'
  | .ret w, S' => ∀ μ' H' R' v, Grow μ n R μ' S'.n R' → Lay K ca S' μ' H' R' → RV K μ' S'.n R' w v → D.rt v H'
def SS (X : Cx) (ca : CF) (cw : String → Hp → Prop) (x : Stmt) (m : M Fl) (ev : Ev) : Prop := ∀ (S : St) (μ : Nat → Addr) (H R : Hp) (σ : L2.St) (D : Ends),
  Lay X.K ca S μ H R → REnv X.K μ S.n R ev σ → (m S).post (PFl X.K ca μ S.n R D) (XQ X.K ca μ S.n R cw) → wS X x D σ H
def SSs (X : Cx) (ca : CF) (cw : String → Hp → Prop) (x : List Stmt) (m : M Fl) (ev : Ev) : Prop := ∀ (S : St) (μ : Nat → Addr) (H R : Hp) (σ : L2.St) (D : Ends),
  Lay X.K ca S μ H R → REnv X.K μ S.n R ev σ → (m S).post (PFl X.K ca μ S.n R D) (XQ X.K ca μ S.n R cw) → wSs X x D σ H
section
variable {K : KF} {ca : CF} {μ μ1 : Nat → Addr} {n : Nat} {R R1 : Hp} {S1 : St}
theorem PFl.grow {D : Ends} (g : Grow μ n R μ1 S1.n R1) {fl : Fl} {S' : St} (h : PFl K ca μ n R D fl S') : PFl K ca μ1 S1.n R1 D fl S' := by
  cases fl with
  | nx e => exact fun μ' H' R' σ' g' L r => h μ' H' R' σ' (g.trans g') L r
  | bk e => exact fun μ' H' R' σ' g' L r => h μ' H' R' σ' (g.trans g') L r
  | ct e => exact fun μ' H' R' σ' g' L r => h μ' H' R' σ' (g.trans g') L r
  | ret w => exact fun μ' H' R' σ' g' L r => h μ' H' R' σ' (g.trans g') L r
end
section
variable {X : Cx} {T : Tab} {ca : CF} {c : Cfg} {cw : String → Hp → Prop} {sc : SC} {ev : Ev}
theorem swaps_no {x : Expr} (h : notComp x = true) (t : Option Expr) (l : Nat) (env : Env) : swapsWith x t l env = pure false := by
  cases x <;> first | rfl | cases h
theorem swaps_sub {x o i : Expr} {p : Pos} (l : Nat) (env : Env) : swapsWith x (some (.Subscript o i p)) l env = pure false := by cases x <;> rfl
theorem swaps_att {x o : Expr} {n : Str} {p : Pos} (l : Nat) (env : Env) : swapsWith x (some (.Attribute o n p)) l env = pure false := by cases x <;> rfl
theorem ss_pass {p : Pos} : SS X ca cw (.Pass p) (exS c .pass ev) ev := fun S μ H R σ D L G h => wS_of ps_pass (h μ H R σ (Grow.refl _ _ _) L G)
theorem ss_cont {p : Pos} : SS X ca cw (.Continue p) (exS c .cont ev) ev := fun S μ H R σ D L G h => wS_of ps_continue (h μ H R σ (Grow.refl _ _ _) L G)
theorem ss_brk {p : Pos} : SS X ca cw (.Break p) (exS c .brk ev) ev := fun S μ H R σ D L G h => wS_of ps_break (h μ H R σ (Grow.refl _ _ _) L G)
theorem ss_retn {p : Pos} : SS X ca cw (.Return none p) (exS c .retn ev) ev := fun S μ H R σ D L G h => wS_of ps_retN (h μ H R .non (Grow.refl _ _ _) L (.d .non))
theorem ss_ret {a : E} {x : Expr} {p : Pos} (ia : SE X ca cw x (evE c ev a) ev) : SS X ca cw (.Return (some x) p) (exS c (.ret a) ev) ev := by
  intro S μ H R σ D L G h
  simp only [exS] at h
  rw [Res.post_bind] at h
  exact wS_of (ps_ret (pe x)) (ia S μ H R σ _ L G (Res.post_mono h (fun w S1 q μ' H' R' v g L' r => q μ' H' R' v g L' r) fun _ _ q => q))
theorem ss_ex {a : E} {x : Expr} {p : Pos} (hn : notComp x = true) (ia : SE X ca cw x (evE c ev a) ev) : SS X ca cw (.Expr x p) (exS c (.ex a) ev) ev := by
  intro S μ H R σ D L G h
  simp only [exS] at h
  rw [Res.post_bind] at h
  exact wS_of (ps_expr (pe x) (swaps_no hn _ _ _)) (ia S μ H R σ _ L G (Res.post_mono h (fun w S1 q μ' H' R' v g L' r => q μ' H' R' σ g L' (G.mono g)) fun _ _ q => q))
theorem ss_ite {t : Tst} {a b : List Py.S} {x : Expr} {y z : List Stmt} {p : Pos} (it : ST X ca cw x (evT c ev t) ev) (ia : SSs X ca cw y (exSs c a ev) ev) (ib : SSs X ca cw z (exSs c b ev) ev) : SS X ca cw (.If x y z p) (exS c (.ite t a b) ev) ev := by
  intro S μ H R σ D L G h
  simp only [exS] at h
  rw [Res.post_bind] at h
  refine wS_of (ps_if (pt x) (pss y) (pss z)) (it S μ H R σ _ L G (Res.post_mono h (fun b S1 q μ1 H1 R1 g L1 => ?_) fun _ _ q => q))
  cases b with
  | true => exact ia S1 μ1 H1 R1 σ D L1 (G.mono g) (Res.post_mono q (fun _ _ q => q.grow g) fun _ _ q => q.grow g)
  | false => exact ib S1 μ1 H1 R1 σ D L1 (G.mono g) (Res.post_mono q (fun _ _ q => q.grow g) fun _ _ q => q.grow g)
theorem sss_nil : SSs X ca cw [] (exSs c [] ev) ev := fun S μ H R σ D L G h => wSs_of pss_nil (h μ H R σ (Grow.refl _ _ _) L G)
theorem sss_cons {a : Py.S} {r : List Py.S} {x : Stmt} {q : List Stmt} (ia : SS X ca cw x (exS c a ev) ev) (ir : ∀ ev, SSs X ca cw q (exSs c r ev) ev) : SSs X ca cw (x :: q) (exSs c (a :: r) ev) ev := by
  intro S μ H R σ D L G h
  simp only [exSs] at h
  rw [Res.post_bind] at h
  refine wSs_of (pss_cons (ps x) (pss q)) (ia S μ H R σ _ L G (Res.post_mono h (fun fl S1 z => ?_) fun _ _ q => q))
  cases fl with
  | nx e => exact fun μ1 H1 R1 σ1 g L1 G1 => ir e S1 μ1 H1 R1 σ1 D L1 G1 (Res.post_mono z (fun _ _ q => PFl.grow g q) fun _ _ q => XQ.grow g q)
  | ret w => exact z
  | bk e => exact z
  | ct e => exact z
theorem ss_rs (A : AmbS X T ca.ca c cw) (F : Fit X sc) {n : String} {x m : Str} {j : Nat} {p p2 p3 pos : Pos} (h1 : x = Str.ofString n) (h2 : glB sc.sc x = true) (h3 : plainN x = true) (h4 : T.excs.contains n = true) :
    SS X ca cw (.Raise (some (.Call (.Name x p) [.Constant (.str m) j p2] [] p3)) none pos) (exS c (.rs n) ev) ev := by
  intro S μ H R σ D L G h
  simp only [exS] at h
  subst h1
  obtain ⟨B, newId, initId, bmB, f1, f2, f3, f4, f5⟩ := A.exc n h4
  refine wS_of (ps_raise A.A.calm A.tk (pmk_own f1 f2 f3 f4 f5 (F.gl h2) (plain_ok h3).1)) ⟨n, rfl, rfl, ?_⟩
  exact h μ H R (Grow.refl _ _ _) L
theorem ss_asg (A : Amb X T ca.ca c cw) {pt : Pt} {a : E} {tg x : Expr} {pos : Pos} (hs : swapsWith x (some tg) pos.line X.env = pure false) (hw : swappedStores [tg] x X.env = pure none) (h1 : (assignEach [tg] X.env).map (·.2) = [assign tg X.env])
    (ig : SG X ca.ca tg pt) (ia : SE X ca cw x (evE c ev a) ev) : SS X ca cw (.Assign [tg] x pos) (exS c (.asg pt a) ev) ev := by
  intro S μ H R σ D L G h
  simp only [exS] at h
  rw [Res.post_bind] at h
  refine wS_of (ps_asg (pe x) (pg tg) hs hw h1) (ia S μ H R σ _ L G (Res.post_mono h (fun w S1 q => ?_) fun _ _ q => q))
  intro μ1 H1 R1 v g L1 r
  split at q
  · rename_i e' eb
    exact ig ca.F S1 μ1 H1 R1 ev e' σ w v _ L1 (G.mono g) r eb fun σ' G' _ => q μ1 H1 R1 σ' g L1 G'
  · exact q.elim
theorem ss_lc (A : Amb X T ca.ca c cw) (Fx : Fit X sc) {i : Nat} {y : Str} {py : Pos} {elt tg iter : Expr} {ifs : List Expr} {scope : Scope} {cpos pos : Pos} {f : Bool} {own : List Nat} {p : Pt} {k : IK} {es : List E} {cd : Option Tst} {el : E}
    (hy : slotB sc i y = true) (hk : (match sc.sc.kind with | .function => true | _ => false) = true) (hl : kindN sc.sc y = some .local) (hp : (py.line == cpos.line) = true) (ha : (scope.names.any fun (n, k) => n == y && (k == .local || k == .cell)) = false)
    (hb : blkC sc.N sc.sc scope (ownP sc own) = true) (hset : noSet iter = true) (hv : (ptVars p).all own.contains = true)
    (hg : ∀ s H C cl fp, SG (BX X scope s H C cl fp) ca.ca tg p) (hi : SI X ca cw tg iter (fun S => (evEs c ev es S).bind fun ws S => itM k ws S) ev)
    (ht : ∀ s H C cl fp F ev', STs (BX X scope s H C cl fp) ⟨ca.ca, F⟩ NoX ifs (evOT c ev' cd) ev') (he : ∀ s H C cl fp F ev', SE (BX X scope s H C cl fp) ⟨ca.ca, F⟩ NoX elt (evE c ev' el) ev') :
    SS X ca cw (.Assign [.Name y py] (.ListComp elt [⟨tg, iter, ifs, 0⟩] scope cpos) pos) (exS c (.asg (.v i) (.comp f own p k es cd el)) ev) ev := by
  intro S μ H R σ D L G h
  have hb : BlkOk X.N X.env.scope scope (ownP sc own) := by
    rw [Fx.n, Fx.s]
    exact blkOk_by hb
  have hk : X.env.scope.kind = .function := by
    rw [Fx.s]
    split at hk
    · assumption
    · cases hk
  have hl : X.env.scope.names.lookup y = some .local := by
    rw [Fx.s]
    exact hl
  have h : ((evE c ev (.comp f own p k es cd el) S).bind fun x S => match bindPt (.v i) x ev S with
    | some e' => .ok (.nx e') S
    | none => .fail : Res Fl).post (PFl X.K ca μ S.n R D) (XQ X.K ca μ S.n R cw) := by
    rw [exS] at h
    exact h
  rw [Res.post_bind] at h
  refine wS_of (ps_setLc A.calm A.nd (Fx.slot hy).1 hl (sw_true hk hl hp ha) (pi tg iter) hb gB_ok tB_ok eB_ok (set_ok hset)) ?_
  rw [own_map]
  show tLc _ _ _ _ _ σ H fun x H1 => gName i x σ H1 D.nx
  refine comp_core hv hg hi ht he L G (Res.post_mono h (fun w S1 q => ?_) fun _ _ q => q)
  intro μ1 H1 R1 v g L1 r
  exact q μ1 H1 R1 _ g L1 ((G.mono g).set r i)

/-! ### stores -/
def wSet (X : Cx) : TSet := fun o i v H Q => ∀ (pins : List (Addr × Obj)) (s : Shared) (σ : L2.St) (ov iv u : Value), Inv X pins σ H s → RelV o ov → RelV i iv → RelV v u → wpAny (model X.prog X.w) X.A (setItem ov iv u) (fun _ s' => ∃ H', Inv X pins σ H' s' ∧ Q H') X.xe s
theorem pset : PSet X (wSet X) := fun pins s σ H o i v ov iv u Q I ro ri rv h => h pins s σ ov iv u I ro ri rv
theorem wSet_of {t : TSet} (h : PSet X t) {o i v : V} {H : Hp} {Q : Hp → Prop} (q : t o i v H Q) : wSet X o i v H Q := fun pins s σ ov iv u I ro ri rv => h pins s σ H o i v ov iv u Q I ro ri rv q
theorem set_ok' (hu : X.A.units + 128 < cLine) {S : St} {μ : Nat → Addr} {H R : Hp} (L : Lay X.K ca S μ H R) {wx wk wv : W} {x k v : V} {S' : St} {Q : Hp → Prop} (rx : RV X.K μ S.n R wx x) (rk : RV X.K μ S.n R wk k) (rv : RV X.K μ S.n R wv v)
    (e : ssetM wx wk wv S = some S') (q : ∀ H', Lay X.K ca S' μ H' R → S'.n = S.n → Q H') : wSet X x k v H Q := by
  have hu1 : X.A.units + 1 < cLine := by omega
  unfold ssetM at e
  split at e
  · rename_i a
    obtain ⟨ea, _⟩ := rx.rf
    subst ea
    split at e
    · rename_i ws e'
      split at e
      · rename_i kk
        split at e
        · rename_i j hj
          cases e
          have ek := rk.int
          subst ek
          obtain ⟨h, e1, z⟩ := L.hol a _ e'
          cases z with
          | lst r =>
            refine wSet_of set_list ⟨_, _, kk, j, rfl, rfl, e1, by rw [← r.length]; exact hj, q _ (L.put e' (.lst (r.set rv j))) rfl⟩
        · cases e
      · cases e
    · obtain ⟨H', g, L', en⟩ := L.dput rk rv e
      exact wSet_of (set_dict hu1) ⟨_, H', rfl, g, q H' L' en⟩
  · cases e
theorem Grow.n_eq {μ : Nat → Addr} {n n' : Nat} {R : Hp} (e : n' = n) : Grow μ n R μ n' R := by subst e; exact Grow.refl _ _ _
theorem ss_sset (A : Amb X T ca.ca c cw) {a i b : E} {x o y : Expr} {p pos : Pos} (hs : noSlice y = true) (ia : SE X ca cw o (evE c ev a) ev) (ii : SE X ca cw y (evE c ev i) ev) (ib : SE X ca cw x (evE c ev b) ev) :
    SS X ca cw (.Assign [.Subscript o y p] x pos) (exS c (.sset a i b) ev) ev := by
  intro S μ H R σ D L G h
  simp only [exS] at h
  rw [Res.post_bind] at h
  refine wS_of (ps_asg (pe x) (pg_sub (pe o) (pe y) pset (fun v => by cases y <;> first | rfl | cases hs)) (swaps_sub (x := x) (o := o) (i := y) (p := p) pos.line X.env)) (ib S μ H R σ _ L G (Res.post_mono h (fun w S1 h1 => ?_) fun _ _ q => q))
  intro μ1 H1 R1 v g1 L1 r1
  rw [Res.post_bind] at h1
  refine ia S1 μ1 H1 R1 σ _ L1 (G.mono g1) (Res.post_mono h1 (fun wx S2 h2 => ?_) fun _ _ q => XQ.grow g1 q)
  intro μ2 H2 R2 vx g2 L2 r2
  rw [Res.post_bind] at h2
  have g12 := g1.trans g2
  refine ii S2 μ2 H2 R2 σ _ L2 (G.mono g12) (Res.post_mono h2 (fun wk S3 h3 => ?_) fun _ _ q => XQ.grow g12 q)
  intro μ3 H3 R3 vk g3 L3 r3
  have g13 := g12.trans g3
  unfold upS at h3
  split at h3
  · rename_i S4 e4
    refine set_ok' A.hu L3 (r2.mono g3) r3 (r1.mono (g2.trans g3)) e4 fun H4 L4 en => ?_
    have g4 : Grow μ S.n R μ3 S4.n R3 := g13.trans (Grow.n_eq en)
    exact h3 μ3 H4 R3 σ g4 L4 (G.mono g4)
  · exact h3.elim
theorem RFs.put {μ : Nat → Addr} {n : Nat} {K : KF} {R : Hp} {f : String} {w : W} {v : V} (r : RV K μ n R w v) : ∀ {fs : List (String × W)} {hs : List (Str × V)}, RFs K μ n R fs hs → RFs K μ n R (putL f w fs) (putF (Str.ofString f) v hs)
  | _, _, .nil => .cons ⟨rfl, r⟩ .nil
  | (g, x) :: fs, (g', x') :: hs, .cons q t => by
    have e : Str.ofString g = g' := q.1
    subst e
    show RFs K μ n R (if g = f then (g, w) :: fs else (g, x) :: putL f w fs) (if Str.ofString g = Str.ofString f then (Str.ofString g, v) :: hs else (Str.ofString g, x') :: putF (Str.ofString f) v hs)
    by_cases hg : g = f
    · rw [if_pos hg, if_pos (by rw [hg])]
      exact .cons ⟨rfl, r⟩ t
    · rw [if_neg hg, if_neg fun z => hg (ofString_inj z)]
      exact .cons ⟨rfl, q.2⟩ (RFs.put r t)
theorem RFs.len {μ : Nat → Addr} {n : Nat} {K : KF} {R : Hp} : ∀ {fs : List (String × W)} {hs : List (Str × V)}, RFs K μ n R fs hs → fs.length = hs.length
  | _, _, .nil => rfl
  | _, _, .cons _ t => congrArg Nat.succ (RFs.len t)
theorem fset_ok (A : Amb X T ca.ca c cw) {S : St} {μ : Nat → Addr} {H R : Hp} (L : Lay X.K ca S μ H R) {wx wv : W} {x v : V} {f : String} {S' : St} (rx : RV X.K μ S.n R wx x) (rv : RV X.K μ S.n R wv v) (e : fsetM c wx f wv S = some S') :
    ∃ a C dx fs, x = .ref a ∧ H a = some (.ins C dx fs) ∧ Cls X.K C ∧ NoAttr X.K C (Str.ofString f) ∧ fs.length < 1000 ∧ Lay X.K ca S' μ (upd H a (.ins C dx (putF (Str.ofString f) v fs))) R ∧ S'.n = S.n := by
  unfold fsetM at e
  split at e
  · rename_i i
    obtain ⟨ea, _⟩ := rx.rf
    subst ea
    split at e
    · rename_i cl fs e'
      split at e
      · rename_i hc
        cases e
        obtain ⟨h, e1, z⟩ := L.hol i _ e'
        obtain ⟨c1, c2⟩ := A.fls cl f hc.1
        cases z with
        | ins r => exact ⟨_, _, _, _, rfl, e1, c1, c2, by rw [← r.len]; exact hc.2, L.put e' (.ins (r.put rv)), rfl⟩
      · cases e
    · cases e
  · cases e
theorem ss_fset (A : Amb X T ca.ca c cw) {a b : E} {f : String} {x o : Expr} {p pos : Pos} (ia : SE X ca cw o (evE c ev a) ev) (ib : SE X ca cw x (evE c ev b) ev) :
    SS X ca cw (.Assign [.Attribute o (Str.ofString f) p] x pos) (exS c (.fset a f b) ev) ev := by
  intro S μ H R σ D L G h
  simp only [exS] at h
  rw [Res.post_bind] at h
  refine wS_of (ps_fld (pe o) (pe x) (swaps_att _ _)) (ib S μ H R σ _ L G (Res.post_mono h (fun w S1 h1 => ?_) fun _ _ q => q))
  intro μ1 H1 R1 v g1 L1 r1
  rw [Res.post_bind] at h1
  refine ia S1 μ1 H1 R1 σ _ L1 (G.mono g1) (Res.post_mono h1 (fun wx S2 h2 => ?_) fun _ _ q => XQ.grow g1 q)
  intro μ2 H2 R2 vx g2 L2 r2
  have g12 := g1.trans g2
  unfold upS at h2
  split at h2
  · rename_i S4 e4
    obtain ⟨a', C, dx, fs, q1, q2, q3, q4, q5, L4, en⟩ := fset_ok A L2 r2 (r1.mono g2) e4
    have g4 : Grow μ S.n R μ2 S4.n R2 := g12.trans (Grow.n_eq en)
    exact ⟨a', C, dx, fs, q1, q2, q3, q4, q5, h2 μ2 _ R2 σ g4 L4 (G.mono g4)⟩
  · exact h2.elim

/-! ### op= -/
def wIp (X : Cx) (op : Operator) : TIp := fun x y H Q => ∀ (pins : List (Addr × Obj)) (s : Shared) (σ : L2.St) (v u : Value), Inv X pins σ H s → RelV x v → RelV y u → wpAny (model X.prog X.w) X.A (inplaceOp op v u) (EP X pins σ Q) X.xe s
theorem pip (op : Operator) : PIp X op (wIp X op) := fun pins s σ H x y v u Q I rx ry h => h pins s σ v u I rx ry
theorem pinop (op : Operator) : InOp X op (wIp X op) := fun pins s σ H x y v u Q I rx ry h => h pins s σ v u I rx ry
theorem aug_ok {op : B} {wx wy : W} {S : St} {P : W → St → Prop} {E : String → St → Prop} {μ : Nat → Addr} {n : Nat} {R H : Hp} {x y : V} {Q : VK} (rx : RV X.K μ n R wx x) (ry : RV X.K μ n R wy y) (h : (augM op wx wy S).post P E)
    (k : ∀ i : Int, P (wi i) S → Q (.int i) H) : wIp X (bop op) x y H Q := by
  unfold augM at h
  split at h
  · rename_i i j
    have e1 := rx.int
    have e2 := ry.int
    subst e1
    subst e2
    exact fun pins s σ v u I rv ru => ip_add pins s σ H _ _ v u Q I rv ru ⟨i, j, rfl, rfl, k _ h⟩
  · rename_i i j
    have e1 := rx.int
    have e2 := ry.int
    subst e1
    subst e2
    exact fun pins s σ v u I rv ru => ip_sub pins s σ H _ _ v u Q I rv ru ⟨i, j, rfl, rfl, k _ h⟩
  · exact h.elim
theorem ss_augv (A : Amb X T ca.ca c cw) (F : Fit X sc) {i : Nat} {op : B} {b : E} {x : Expr} {y : Str} {p pos : Pos} (hy : slotB sc i y = true) (hl : locB sc y = true) (ib : SE X ca cw x (evE c ev b) ev) :
    SS X ca cw (.AugAssign (.Name y p) (bop op) x pos) (exS c (.augv i op b) ev) ev := by
  intro S μ H R σ D L G h
  simp only [exS] at h
  have loc : Loc X.env.scope y ∧ (X.fn y = true ∨ X.env.scope.names.lookup y = some .local) := by
    rw [F.s, F.f]
    unfold locB kindN at hl
    split at hl
    · rename_i e
      exact ⟨.inl e, .inr e⟩
    · rename_i e
      exact ⟨.inr e, .inl hl⟩
    · cases hl
  split at h
  · rename_i wx ex
    obtain ⟨v, e1, r1⟩ := G.get ex
    refine wS_of (ps_aug A.nd (F.slot hy).1 loc.1 (pe x) (pip _) loc.2) ⟨v, e1, ?_⟩
    rw [Res.post_bind] at h
    refine ib S μ H R σ _ L G (Res.post_mono h (fun wy S1 h1 => ?_) fun _ _ q => q)
    intro μ1 H1 R1 vy g1 L1 r2
    rw [Res.post_bind] at h1
    refine aug_ok (r1.mono g1) r2 h1 fun z hz => ?_
    exact hz μ1 H1 R1 _ g1 L1 ((G.mono g1).set (.d (.int z)) i)
  · exact h.elim
theorem ss_augf (A : Amb X T ca.ca c cw) {a b : E} {f : String} {op : B} {x o : Expr} {p pos : Pos} (ia : SE X ca cw o (evE c ev a) ev) (ib : SE X ca cw x (evE c ev b) ev) :
    SS X ca cw (.AugAssign (.Attribute o (Str.ofString f) p) (bop op) x pos) (exS c (.augf a f op b) ev) ev := by
  intro S μ H R σ D L G h
  simp only [exS] at h
  rw [Res.post_bind] at h
  refine wS_of (ps_fldaug (pe o) (pe x) (pinop _)) (ia S μ H R σ _ L G (Res.post_mono h (fun wx S1 h1 => ?_) fun _ _ q => q))
  intro μ1 H1 R1 vx g1 L1 r1
  rw [Res.post_bind] at h1
  unfold fldM at h1
  split at h1
  · rename_i i
    obtain ⟨ea, _⟩ := r1.rf
    subst ea
    split at h1
    · rename_i cl fs e'
      split at h1
      · rename_i hf
        obtain ⟨w', e2, q⟩ := okW_post h1
        obtain ⟨c1, c2⟩ := A.fls cl f hf
        obtain ⟨ho, e1, ho2⟩ := L1.hol i _ e'
        cases ho2 with
        | ins rf =>
          have z := rf.look (f := f)
          rw [e2] at z
          cases e3 : List.lookup (Str.ofString f) _ with
          | none => rw [e3] at z; cases z
          | some vw =>
            rw [e3] at z
            cases z with
            | some z =>
              refine ⟨_, _, _, _, vw, rfl, e1, c1, c2, e3, ?_⟩
              rw [Res.post_bind] at q
              refine ib S1 μ1 H1 R1 σ _ L1 (G.mono g1) (Res.post_mono q (fun wy S2 h2 => ?_) fun _ _ q => XQ.grow g1 q)
              intro μ2 H2 R2 vy g2 L2 r2
              rw [Res.post_bind] at h2
              have g12 := g1.trans g2
              refine aug_ok (z.mono g2) r2 h2 fun k h3 => ?_
              split at h3
              · rename_i hcl
                unfold upS at h3
                split at h3
                · rename_i S4 e4
                  have e5 : clsW S2 (.ref i) = some cl := by
                    rw [hcl]
                    show (match S1.o i with
                      | some (.ins c _) => some c
                      | _ => none) = some cl
                    rw [e']
                  obtain ⟨a', C, dx, fs', q1, q2, q3, q4, q5, L4, en⟩ := fset_ok A L2 (r1.mono g2) (.d (.int k)) e4
                  have g4 : Grow μ S.n R μ2 S4.n R2 := g12.trans (Grow.n_eq en)
                  have e5 : (match S2.o i with
                    | some (.ins c _) => some c
                    | _ => none) = some cl := e5
                  split at e5
                  · rename_i cl' fs2 e6
                    cases e5
                    obtain ⟨ho, e7, ho2⟩ := L2.hol i _ e6
                    rw [g2.eq i (L1.dom i _ e')] at e7
                    cases q1
                    rw [q2] at e7
                    cases e7
                    cases ho2 with
                    | ins rf => exact ⟨dx, fs', q2, q5, h3 μ2 _ R2 σ g4 L4 (G.mono g4)⟩
                  · cases e5
                · exact h3.elim
              · exact h3.elim
      · exact False.elim h1
    · exact False.elim h1
  · exact False.elim h1
theorem ss_augs (A : Amb X T ca.ca c cw) {a i b : E} {op : B} {x o y : Expr} {p pos : Pos} (hs : noSlice y = true) (ia : SE X ca cw o (evE c ev a) ev) (ii : SE X ca cw y (evE c ev i) ev) (ib : SE X ca cw x (evE c ev b) ev) :
    SS X ca cw (.AugAssign (.Subscript o y p) (bop op) x pos) (exS c (.augs a i op b) ev) ev := by
  intro S μ H R σ D L G h
  simp only [exS] at h
  rw [Res.post_bind] at h
  refine wS_of (ps_daug (by have := A.hu; omega) (pe o) (pe y) (pe x) (pinop _) (fun ov iv new => by cases y <;> first | rfl | cases hs)) (ia S μ H R σ _ L G (Res.post_mono h (fun wx S1 h1 => ?_) fun _ _ q => q))
  intro μ1 H1 R1 vx g1 L1 r1
  rw [Res.post_bind] at h1
  refine ii S1 μ1 H1 R1 σ _ L1 (G.mono g1) (Res.post_mono h1 (fun wk S2 h2 => ?_) fun _ _ q => XQ.grow g1 q)
  intro μ2 H2 R2 vk g2 L2 r2
  have g12 := g1.trans g2
  split at h2
  · rename_i j
    have r1' := r1.mono g2
    obtain ⟨ea, _⟩ := r1'.rf
    subst ea
    split at h2
    · rename_i w' e2
      obtain ⟨q, dg, ro⟩ := L2.dget r2 e2
      cases ro with
      | some ro =>
        refine ⟨_, _, rfl, dg, ?_⟩
        rw [Res.post_bind] at h2
        refine ib S2 μ2 H2 R2 σ _ L2 (G.mono g12) (Res.post_mono h2 (fun wy S3 h3 => ?_) fun _ _ q => XQ.grow g12 q)
        intro μ3 H3 R3 vy g3 L3 r3
        rw [Res.post_bind] at h3
        have g13 := g12.trans g3
        refine aug_ok (ro.mono g3) r3 h3 fun k h4 => ?_
        unfold upS at h4
        split at h4
        · rename_i S4 e4
          obtain ⟨H', dp, L', en⟩ := L3.dput (r2.mono g3) (.d (.int k)) e4
          have g4 : Grow μ S.n R μ3 S4.n R3 := g13.trans (Grow.n_eq en)
          rw [g3.eq j (by have := r1'.rf.2; exact this)] at dp
          exact ⟨H', dp, h4 μ3 H' R3 σ g4 L' (G.mono g4)⟩
        · exact h4.elim
    · exact h2.elim
  · exact h2.elim
end
end Py

/-! Snd11: soundness of loops; of every statement that the check lets by. -/
namespace Py
open PySem PySem.Spec PyProof.Rows L2
open Evl (Ex ex_l ex_t ex_rd fresh_back)
section
variable {X : Cx} {T : Tab} {ca : CF} {c : Cfg} {cw : String → Hp → Prop} {sc : SC} {ev : Ev}
theorem ss_for (A : AmbS X T ca.ca c cw) {p : Pt} {k : IK} {es : List E} {b : List Py.S} {tg iter : Expr} {body : List Stmt} {pos : Pos} (hset : noSet iter = true)
    (ig : SG X ca.ca tg p) (hi : SI X ca cw tg iter (fun S => (evEs c ev es S).bind fun ws S => itM k ws S) ev) (ib : ∀ ev, SSs X ca cw body (exSs c b ev) ev) :
    SS X ca cw (.For tg iter body [] pos) (exS c (.for_ p k es b) ev) ev := by
  intro S μ H R σ D L G h
  simp only [exS] at h
  generalize hF : (fun w e S => match bindPt p w e S with
        | some e' => exSs c b e' S
        | none => .fail : W → Ev → M Fl) = Fn at h
  rw [Res.post_bind] at h
  refine wS_of (ps_for A.po A.A.calm (pi tg iter) (pg tg) (pss body) (set_ok hset)) (hi S μ H R σ _ L G ?_)
  rw [Res.post_bind]
  refine Res.post_mono h (fun ws S0 q => ?_) fun _ _ q => q
  rw [Res.post_bind] at q
  refine Res.post_mono q (fun I S1 q => ?_) fun _ _ q => q
  intro μ1 H1 R1 J g1 L1 fd
  let Cst : Nat → L2.St → Hp → Prop := fun i σc Hc => i ≤ I.ws.length ∧ ∃ S' μ' R' e, Grow μ S.n R μ' S'.n R' ∧ Grow μ1 S1.n R1 μ' S'.n R' ∧ Lay X.K ca S' μ' Hc R' ∧ REnv X.K μ' S'.n R' e σc ∧
    (forL Fn I (I.ws.drop i) e S').post (PFl X.K ca μ S.n R D) (XQ X.K ca μ S.n R cw)
  refine ⟨fun i m σc Hc => m = I.ws.length - i ∧ Cst i σc Hc, ⟨_, rfl, Nat.zero_le _, S1, μ1, R1, ev, g1, Grow.refl _ _ _, L1, G.mono g1, q⟩, ?_⟩
  rintro i m σc Hc ⟨rfl, hil, S2, μ2, R2, e2, g02, g2, L2', G2, q2⟩
  by_cases hlt : i < I.ws.length
  · have ed : I.ws.drop i = I.ws[i] :: I.ws.drop (i + 1) := List.drop_eq_getElem_cons hlt
    rw [ed] at q2
    obtain ⟨ok, q2⟩ := guard_post q2
    obtain ⟨f1, f2, f3⟩ := fd ca.F S2 μ2 Hc R2 g2 L2' ok
    refine .inr ⟨f1 i hlt, Cst (i + 1), fun σ' H' w' => ⟨_, by omega, rfl, w'⟩, fun x H' y => ?_⟩
    obtain ⟨R3, g3, L3, rx⟩ := f3 i x H' _ (List.getElem?_eq_getElem hlt) y
    rw [Res.post_bind] at q2
    have q2 : (match bindPt p I.ws[i] e2 S2 with
        | some e' => exSs c b e' S2
        | none => .fail : Res Fl).post (fun fl Sx => (match fl with
      | .nx e => forL Fn I (I.ws.drop (i + 1)) e Sx
      | .ct e => forL Fn I (I.ws.drop (i + 1)) e Sx
      | .bk e => .ok (.nx e) Sx
      | .ret v => .ok (.ret v) Sx).post (PFl X.K ca μ S.n R D) (XQ X.K ca μ S.n R cw)) (XQ X.K ca μ S.n R cw) := by
      rw [← hF] at q2 ⊢
      exact Res.post_mono q2 (fun fl S z => by cases fl <;> exact z) fun _ _ z => z
    split at q2
    · rename_i ev' eb
      refine ig ca.F S2 μ2 H' R3 e2 ev' σc _ x _ L3 (G2.mono g3) rx eb fun σ3 G3 w3 => ?_
      have g03 := g02.trans g3
      refine ib ev' S2 μ2 H' R3 σ3 _ L3 G3 (Res.post_mono q2 (fun fl S4 q4 => ?_) fun _ _ z => XQ.grow g03 z)
      cases fl with
      | nx e4 => exact fun μ4 H4 R4 σ4 g4 L4 G4 => ⟨hlt, S4, μ4, R4, e4, g03.trans g4, (g2.trans g3).trans g4, L4, G4, q4⟩
      | ct e4 => exact fun μ4 H4 R4 σ4 g4 L4 G4 => ⟨hlt, S4, μ4, R4, e4, g03.trans g4, (g2.trans g3).trans g4, L4, G4, q4⟩
      | bk e4 => exact fun μ4 H4 R4 σ4 g4 L4 G4 => q4 μ4 H4 R4 σ4 (g03.trans g4) L4 G4
      | ret w => exact fun μ4 H4 R4 v g4 L4 r4 => q4 μ4 H4 R4 v (g03.trans g4) L4 r4
    · exact False.elim q2
  · have e : i = I.ws.length := Nat.le_antisymm hil (Nat.le_of_not_lt hlt)
    subst e
    rw [List.drop_length] at q2
    obtain ⟨ok, q2⟩ := guard_post q2
    obtain ⟨f1, f2, f3⟩ := fd ca.F S2 μ2 Hc R2 g2 L2' ok
    exact .inl ⟨f2, q2 μ2 Hc R2 σc g02 L2' G2⟩
theorem ss_whl (A : AmbS X T ca.ca c cw) {t : Tst} {b : List Py.S} {x : Expr} {body : List Stmt} {pos : Pos} (it : ∀ ev, ST X ca cw x (evT c ev t) ev) (ib : ∀ ev, SSs X ca cw body (exSs c b ev) ev) :
    SS X ca cw (.While x body [] pos) (exS c (.whl t b) ev) ev := by
  intro S μ H R σ D L G h
  simp only [exS] at h
  refine wS_of (ps_while A.po (pt x) (pss body)) ⟨fun m σc Hc => ∃ S' μ' R' e, Grow μ S.n R μ' S'.n R' ∧ Lay X.K ca S' μ' Hc R' ∧ REnv X.K μ' S'.n R' e σc ∧
    (whileL (fun e S => evT c e t S) (fun e S => exSs c b e S) m e S').post (PFl X.K ca μ S.n R D) (XQ X.K ca μ S.n R cw), ⟨c.fuel, S, μ, R, ev, Grow.refl _ _ _, L, G, h⟩, ?_⟩
  rintro m σ1 H1 ⟨S1, μ1, R1, e1, g1, L1, G1, q⟩
  cases m with
  | zero => exact False.elim q
  | succ m =>
    unfold whileL at q
    rw [Res.post_bind] at q
    refine it e1 S1 μ1 H1 R1 σ1 _ L1 G1 (Res.post_mono q (fun bb S2 q2 => ?_) fun _ _ z => XQ.grow g1 z)
    intro μ2 H2 R2 g2 L2
    have g02 := g1.trans g2
    have G2 := G1.mono g2
    cases bb with
    | true =>
      rw [if_pos rfl] at q2 ⊢
      refine ⟨fun σ' H' => ∃ S' μ' R' e, Grow μ S.n R μ' S'.n R' ∧ Lay X.K ca S' μ' H' R' ∧ REnv X.K μ' S'.n R' e σ' ∧
        (whileL (fun e S => evT c e t S) (fun e S => exSs c b e S) m e S').post (PFl X.K ca μ S.n R D) (XQ X.K ca μ S.n R cw), fun σ' H' w => ⟨m, Nat.lt_succ_self m, w⟩, ?_⟩
      rw [Res.post_bind] at q2
      refine ib e1 S2 μ2 H2 R2 σ1 _ L2 G2 (Res.post_mono q2 (fun fl S3 q3 => ?_) fun _ _ z => XQ.grow g02 z)
      cases fl with
      | nx e4 => exact fun μ4 H4 R4 σ4 g4 L4 G4 => ⟨S3, μ4, R4, e4, g02.trans g4, L4, G4, q3⟩
      | ct e4 => exact fun μ4 H4 R4 σ4 g4 L4 G4 => ⟨S3, μ4, R4, e4, g02.trans g4, L4, G4, q3⟩
      | bk e4 => exact fun μ4 H4 R4 σ4 g4 L4 G4 => q3 μ4 H4 R4 σ4 (g02.trans g4) L4 G4
      | ret w => exact fun μ4 H4 R4 v g4 L4 r4 => q3 μ4 H4 R4 v (g02.trans g4) L4 r4
    | false =>
      rw [if_neg (by decide)] at q2 ⊢
      exact q2 μ2 H2 R2 σ1 g02 L2 G2
end
def GS (T : Tab) (cc : String → Addr) (c : Cfg) (sc : SC) (a : Py.S) (x : Stmt) : Prop := ∀ (X : Cx) (F : Hp) (cw : String → Hp → Prop) (ev : Ev), AmbS X T cc c cw → Fit X sc → SS X ⟨cc, F⟩ cw x (exS c a ev) ev
def GSs (T : Tab) (cc : String → Addr) (c : Cfg) (sc : SC) (a : List Py.S) (x : List Stmt) : Prop := ∀ (X : Cx) (F : Hp) (cw : String → Hp → Prop) (ev : Ev), AmbS X T cc c cw → Fit X sc → SSs X ⟨cc, F⟩ cw x (exSs c a ev) ev
section
variable {T : Tab} {cc : String → Addr} {c : Cfg} {sc : SC} {X : Cx} {F : Hp} {cw : String → Hp → Prop} {ev : Ev}
theorem si_chk (A : Amb X T cc c cw) (Fx : Fit X sc) {k : IK} {tg it : Expr} {es : List E} (h : (match itX sc k tg it with
    | some xs => chkEs T sc es xs
    | none => false) = true) : SI X ⟨cc, F⟩ cw tg it (fun S => (evEs c ev es S).bind fun ws S => itM k ws S) ev := by
  cases ex : itX sc k tg it with
  | none =>
    rw [ex] at h
    cases h
  | some xs =>
    rw [ex] at h
    refine si_all A Fx ex h ((sndEs T cc c es sc xs h).2 X F cw ev A Fx) fun a e1 => ?_
    by_cases hk : k = .seq
    · subst hk
      cases ex
      exact .inl ((sndEs T cc c es sc [it] h).1 0 a it (by rw [e1]; rfl) rfl X F cw ev A Fx)
    · exact .inr hk
theorem sw_gen {p : Pt} {e : E} {tg x : Expr} (h : swB sc p e tg x = true) (hx : notComp x = true) (l : Nat) (env : Env) : swapsWith x (some tg) l env = pure false ∧ swappedStores [tg] x env = pure none := by
  refine ⟨swaps_no hx _ _ _, ?_⟩
  cases x with
  | Tuple xs kk pp =>
    cases tg with
    | Name _ _ => rfl
    | _ => cases h
  | List xs pp => cases tg <;> rfl
  | ListComp _ _ _ _ => cases hx
  | SetComp _ _ _ _ => cases hx
  | DictComp _ _ _ _ _ => cases hx
  | _ => cases tg <;> rfl
end
theorem chk_lc {T : Tab} {cc : String → Addr} {c : Cfg} {sc : SC} {f : Bool} {own : List Nat} {p : Pt} {k : IK} {es : List E} {cd : Option Tst} {el : E} {elt : Expr} {gs : List Comprehension} {scope : Scope} {cpos : Pos} {i : Nat} {y : Str} {py pos : Pos}
    (h : chkE T sc (.comp f own p k es cd el) (.ListComp elt gs scope cpos) = true) (hy : slotB sc i y = true) (hk : (match sc.sc.kind with | .function => true | _ => false) = true) (hl : kindN sc.sc y = some .local) (hp : (py.line == cpos.line) = true)
    (ha : (scope.names.any fun (n, k) => n == y && (k == .local || k == .cell)) = false) : GS T cc c sc (.asg (.v i) (.comp f own p k es cd el)) (.Assign [.Name y py] (.ListComp elt gs scope cpos) pos) := by
  match gs, h with
  | [], h => cases h
  | ⟨_, _, _, .ofNat 0⟩ :: _ :: _, h => cases h
  | ⟨_, _, _, .ofNat (n + 1)⟩ :: _ :: _, h => cases h
  | ⟨_, _, _, .negSucc n⟩ :: _ :: _, h => cases h
  | [⟨tg, it, ifs, .ofNat (n + 1)⟩], h => cases h
  | [⟨tg, it, ifs, .negSucc n⟩], h => cases h
  | [⟨tg, it, ifs, .ofNat 0⟩], h =>
    have h : (blkC sc.N sc.sc scope (ownP sc own) && noSet it && (ptVars p).all own.contains && chkPt (sc.blk scope) p tg && (match itX sc k tg it with
      | some xs => chkEs T sc es xs
      | none => false) && chkOT T (sc.blk scope) cd ifs && chkE T (sc.blk scope) el elt) = true := h
    simp only [Bool.and_eq_true] at h
    obtain ⟨⟨⟨⟨⟨⟨h1, h2⟩, h3⟩, h4⟩, h5⟩, h6⟩, h7⟩ := h
    intro X F cw ev A Fx
    exact ss_lc (ca := ⟨cc, F⟩) A.A Fx hy hk hl hp ha h1 h2 h3 (fun s H C cl fp => sg (X := BX X scope s H C cl fp) A.A.calm A.A.nd Fx.blk p tg h4) (si_chk A.A Fx h5)
      (fun s H C cl fp F' ev' => sndOT T cc c cd (sc.blk scope) ifs h6 _ F' NoX ev' (A.A.blk (X := X)) Fx.blk) fun s H C cl fp F' ev' => sndE T cc c el (sc.blk scope) elt h7 _ F' NoX ev' A.A.blk Fx.blk
theorem chk_asg {T : Tab} {cc : String → Addr} {c : Cfg} {sc : SC} {p : Pt} {e : E} {tg x : Expr} {pos : Pos} (h1 : chkPt sc p tg = true) (h2 : chkE T sc e x = true) (h3 : swB sc p e tg x = true) : GS T cc c sc (.asg p e) (.Assign [tg] x pos) := by
  have ht : noStar tg = true := by
    cases p <;> cases tg <;> first | rfl | cases h1
  cases hx : notComp x with
  | true =>
    intro X F cw ev A Fx
    obtain ⟨s1, s2⟩ := sw_gen h3 hx pos.line X.env
    exact ss_asg A.A s1 s2 (by rw [each_ok ht]; rfl) (sg A.A.calm A.A.nd Fx p tg h1) (sndE T cc c e sc x h2 X F cw ev A.A Fx)
  | false =>
    cases x with
    | ListComp elt gs scope cpos =>
      cases p with
      | v i =>
        cases tg with
        | Name y py =>
          have h3 : (isCompE e && (match sc.sc.kind with | .function => true | _ => false) && decide (kindN sc.sc y = some .local) && (py.line == cpos.line) && !(scope.names.any fun (n, k) => n == y && (k == .local || k == .cell))) = true := h3
          have h1 : (slotB sc i y && locB sc y) = true := h1
          rw [Bool.and_eq_true] at h1
          cases e with
          | comp f own p k es cd el =>
            simp only [Bool.and_eq_true, decide_eq_true_eq] at h3
            obtain ⟨⟨⟨⟨_, k1⟩, k2⟩, k3⟩, k4⟩ := h3
            exact chk_lc h2 h1.1 k1 k2 k3 (by rw [Bool.not_eq_true'] at k4; exact k4)
          | _ => cases h3
        | _ => cases h3
      | t _ => cases h3
    | SetComp _ _ _ _ => cases h3
    | DictComp _ _ _ _ _ => cases h3
    | _ => cases hx
theorem rsX_ok {e ca : Option Expr} {x : Str} (h : rsX e ca = some x) : ∃ p m j p2 p3, e = some (.Call (.Name x p) [.Constant (.str m) j p2] [] p3) ∧ ca = none := by
  unfold rsX at h
  split at h
  · cases h
    exact ⟨_, _, _, _, _, rfl, rfl⟩
  · cases h
mutual
theorem sndS (T : Tab) (cc : String → Addr) (c : Cfg) : ∀ (a : Py.S) (sc : SC) (x : Stmt), chkS T sc a x = true → GS T cc c sc a x
  | .asg p e, sc, x, h => by
    cases x with
    | Assign ts x pos =>
      match ts, h with
      | [tg], h =>
        have h : (chkPt sc p tg && chkE T sc e x && swB sc p e tg x) = true := h
        simp only [Bool.and_eq_true] at h
        exact chk_asg h.1.1 h.1.2 h.2
      | [], h => cases h
      | _ :: _ :: _, h => cases h
    | _ => cases h
  | .sset a i e, sc, x, h => by
    cases x with
    | Assign ts x pos =>
      match ts, h with
      | [.Subscript o y p], h =>
        have h : (noSlice y && chkE T sc a o && chkE T sc i y && chkE T sc e x) = true := h
        simp only [Bool.and_eq_true] at h
        exact fun X F cw ev A Fx => ss_sset A.A h.1.1.1 (sndE T cc c a sc o h.1.1.2 X F cw ev A.A Fx) (sndE T cc c i sc y h.1.2 X F cw ev A.A Fx) (sndE T cc c e sc x h.2 X F cw ev A.A Fx)
      | [], h => cases h
      | t :: _ :: _, h => cases t <;> cases h
      | [t], h =>
        cases t with
        | Subscript o y p =>
          have h : (noSlice y && chkE T sc a o && chkE T sc i y && chkE T sc e x) = true := h
          simp only [Bool.and_eq_true] at h
          exact fun X F cw ev A Fx => ss_sset A.A h.1.1.1 (sndE T cc c a sc o h.1.1.2 X F cw ev A.A Fx) (sndE T cc c i sc y h.1.2 X F cw ev A.A Fx) (sndE T cc c e sc x h.2 X F cw ev A.A Fx)
        | _ => cases h
    | _ => cases h
  | .fset a f e, sc, x, h => by
    cases x with
    | Assign ts x pos =>
      match ts, h with
      | [], h => cases h
      | t :: _ :: _, h => cases t <;> cases h
      | [t], h =>
        cases t with
        | Attribute o n p =>
          have h : (decide (n = Str.ofString f) && chkE T sc a o && chkE T sc e x) = true := h
          simp only [Bool.and_eq_true, decide_eq_true_eq] at h
          obtain ⟨⟨rfl, h2⟩, h3⟩ := h
          exact fun X F cw ev A Fx => ss_fset A.A (sndE T cc c a sc o h2 X F cw ev A.A Fx) (sndE T cc c e sc x h3 X F cw ev A.A Fx)
        | _ => cases h
    | _ => cases h
  | .augv i op e, sc, x, h => by
    cases x with
    | AugAssign t o x pos =>
      cases t with
      | Name y p =>
        have h : (slotB sc i y && locB sc y && bopB op o && chkE T sc e x) = true := h
        simp only [Bool.and_eq_true] at h
        obtain ⟨⟨⟨h1, h2⟩, h3⟩, h4⟩ := h
        cases bopB_ok h3
        exact fun X F cw ev A Fx => ss_augv A.A Fx h1 h2 (sndE T cc c e sc x h4 X F cw ev A.A Fx)
      | _ => cases h
    | _ => cases h
  | .augf a f op e, sc, x, h => by
    cases x with
    | AugAssign t oo x pos =>
      cases t with
      | Attribute o n p =>
        have h : (decide (n = Str.ofString f) && bopB op oo && chkE T sc a o && chkE T sc e x) = true := h
        simp only [Bool.and_eq_true, decide_eq_true_eq] at h
        obtain ⟨⟨⟨rfl, h2⟩, h3⟩, h4⟩ := h
        cases bopB_ok h2
        exact fun X F cw ev A Fx => ss_augf A.A (sndE T cc c a sc o h3 X F cw ev A.A Fx) (sndE T cc c e sc x h4 X F cw ev A.A Fx)
      | _ => cases h
    | _ => cases h
  | .augs a i op e, sc, x, h => by
    cases x with
    | AugAssign t oo x pos =>
      cases t with
      | Subscript o y p =>
        have h : (noSlice y && bopB op oo && chkE T sc a o && chkE T sc i y && chkE T sc e x) = true := h
        simp only [Bool.and_eq_true] at h
        obtain ⟨⟨⟨⟨h1, h2⟩, h3⟩, h4⟩, h5⟩ := h
        cases bopB_ok h2
        exact fun X F cw ev A Fx => ss_augs A.A h1 (sndE T cc c a sc o h3 X F cw ev A.A Fx) (sndE T cc c i sc y h4 X F cw ev A.A Fx) (sndE T cc c e sc x h5 X F cw ev A.A Fx)
      | _ => cases h
    | _ => cases h
  | .ex e, sc, x, h => by
    cases x with
    | Expr x pos =>
      have h : (notComp x && chkE T sc e x) = true := h
      simp only [Bool.and_eq_true] at h
      exact fun X F cw ev A Fx => ss_ex h.1 (sndE T cc c e sc x h.2 X F cw ev A.A Fx)
    | _ => cases h
  | .ret e, sc, x, h => by
    cases x with
    | Return o pos =>
      cases o with
      | some x => exact fun X F cw ev A Fx => ss_ret (sndE T cc c e sc x h X F cw ev A.A Fx)
      | none => cases h
    | _ => cases h
  | .retn, sc, x, h => by
    cases x with
    | Return o pos =>
      cases o with
      | some x => cases h
      | none => exact fun X F cw ev A Fx => ss_retn
    | _ => cases h
  | .ite t a b, sc, x, h => by
    cases x with
    | If x p q pos =>
      have h : (chkT T sc t x && chkSs T sc a p && chkSs T sc b q) = true := h
      simp only [Bool.and_eq_true] at h
      exact fun X F cw ev A Fx => ss_ite (sndT T cc c t sc x h.1.1 X F cw ev A.A Fx) (sndSs T cc c a sc p h.1.2 X F cw ev A Fx) (sndSs T cc c b sc q h.2 X F cw ev A Fx)
    | _ => cases h
  | .for_ p k es b, sc, x, h => by
    cases x with
    | For tg it body els pos =>
      cases els with
      | nil =>
        have h : (noSet it && chkPt sc p tg && (match itX sc k tg it with
          | some xs => chkEs T sc es xs
          | none => false) && chkSs T sc b body) = true := h
        simp only [Bool.and_eq_true] at h
        obtain ⟨⟨⟨h1, h2⟩, h3⟩, h4⟩ := h
        exact fun X F cw ev A Fx => ss_for A h1 (sg A.A.calm A.A.nd Fx p tg h2) (si_chk A.A Fx h3) fun ev => sndSs T cc c b sc body h4 X F cw ev A Fx
      | cons _ _ => cases h
    | _ => cases h
  | .whl t b, sc, x, h => by
    cases x with
    | While x body els pos =>
      cases els with
      | nil =>
        have h : (chkT T sc t x && chkSs T sc b body) = true := h
        simp only [Bool.and_eq_true] at h
        exact fun X F cw ev A Fx => ss_whl A (fun ev => sndT T cc c t sc x h.1 X F cw ev A.A Fx) fun ev => sndSs T cc c b sc body h.2 X F cw ev A Fx
      | cons _ _ => cases h
    | _ => cases h
  | .rs n, sc, x, h => by
    cases x with
    | Raise e ca pos =>
      have h : (match rsX e ca with
        | some x => decide (x = Str.ofString n) && glB sc.sc x && plainN x && T.excs.contains n
        | none => false) = true := h
      cases ex : rsX e ca with
      | none => rw [ex] at h; cases h
      | some x =>
        obtain ⟨p, m, j, p2, p3, rfl, rfl⟩ := rsX_ok ex
        have h : (decide (x = Str.ofString n) && glB sc.sc x && plainN x && T.excs.contains n) = true := h
        simp only [Bool.and_eq_true, decide_eq_true_eq] at h
        obtain ⟨⟨⟨h1, h2⟩, h3⟩, h4⟩ := h
        exact fun X F cw ev A Fx => ss_rs A Fx h1 h2 h3 h4
    | _ => cases h
  | .pass, sc, x, h => by
    cases x with
    | Pass pos => exact fun X F cw ev A Fx => ss_pass
    | _ => cases h
  | .cont, sc, x, h => by
    cases x with
    | Continue pos => exact fun X F cw ev A Fx => ss_cont
    | _ => cases h
  | .brk, sc, x, h => by
    cases x with
    | Break pos => exact fun X F cw ev A Fx => ss_brk
    | _ => cases h
  | .try_ b n i hh, sc, x, h => by cases x <;> cases h
theorem sndSs (T : Tab) (cc : String → Addr) (c : Cfg) : ∀ (a : List Py.S) (sc : SC) (x : List Stmt), chkSs T sc a x = true → GSs T cc c sc a x
  | [], sc, x, h => by
    cases x with
    | nil => exact fun X F cw ev A Fx => sss_nil
    | cons _ _ => cases h
  | a :: r, sc, x, h => by
    cases x with
    | nil => cases h
    | cons x q =>
      have h : (chkS T sc a x && chkSs T sc r q) = true := h
      simp only [Bool.and_eq_true] at h
      exact fun X F cw ev A Fx => sss_cons (sndS T cc c a sc x h.1 X F cw ev A Fx) fun ev => sndSs T cc c r sc q h.2 X F cw ev A Fx
end
end Py

/-! Snd12: defs, a program of them. -/
namespace Py
open PySem PySem.Spec PyProof.Rows L2
open Evl (Ex ex_l ex_t ex_rd fresh_back)

/-- defaults fill up -/
def BindOk (K : KF) (g : Sig) (fd : FuncData) (ps : List Str) : Prop :=
  (∀ ds : List PyData, datasB (g.dfl.drop (g.dfl.length - ds.length)) ds = true → ds.length ≤ g.dfl.length → ∃ (dvs : List V) (us : List Value), DVs K (fun _ => none) dvs ds ∧ Vals dvs us ∧ Binds K fd ps us) ∧
    (g.dfl = [] → ∀ (s : Shared) (us : List Value), us.length = ps.length → BindsTo s fd ⟨us, []⟩ (ps.zip us))
structure DefOk (T : Tab) (K : KF) (f : Addr) (key : String) (d : Def) : Prop where
  ex : ∃ (x qual : Str) (params : Arguments) (body : List Stmt) (scope : Scope) (dvs : List V) (fd : FuncData) (N ps : List Str) (g : Sig), T.sig key = some g ∧ FunD K x qual params body scope dvs [] f fd ∧ FnScope N ps scope ∧
    d.np = ps.length ∧ d.ns = N.length ∧ chkSs T ⟨N, scope, fun _ => true⟩ d.body body = true ∧ BindOk K g fd ps
structure Good (P : Prog) (T : Tab) (cc : String → Addr) (fa : String → Addr) (K : KF) (mg : Str → Option Value) : Prop where
  defs : ∀ key d, P.defs key = some d → DefOk T K (fa key) key d
  sig : ∀ key g, T.sig key = some g → ∃ d, P.defs key = some d
  blt : ∀ x : Str, x ∈ (["len", "list", "sorted", "all", "any", "str", "int", "min", "max", "sum", "tuple", "abs", "isinstance", "range", "reversed", "enumerate", "zip", "bool"] : List Str) → mg x = none
  glb : ∀ n d, P.glb n = some d → ∃ v u, mg (Str.ofString n) = some u ∧ RelV v u ∧ DV K (fun _ => none) v d
  call : ∀ n g, T.sig n = some g → T.own.contains n = false → mg (Str.ofString n) = some (.ref (fa n)) ∧ PySem.W.keepIn K (.ref (fa n)) = true
  mth : ∀ cl m key, P.mth cl m = some key → (∃ g, T.sig key = some g) ∧ key ∈ T.mkeys m ∧ Cls K (cc cl) ∧ Meth K (cc cl) (Str.ofString m) (fa key)
  ini : ∀ cl key, P.ini cl = some key → (∃ g, T.sig key = some g) ∧ Mk K (cc cl) (fa key) ∧ mg (Str.ofString cl) = some (.ref (cc cl))
  fls : ∀ cl f, (P.fls cl).contains f = true → Cls K (cc cl) ∧ NoAttr K (cc cl) (Str.ofString f)
  exc : ∀ n, T.excs.contains n = true → ∃ B newId initId bmB, ExcBaseFacts B newId initId bmB ∧ PySem.W.excIn K (cc n) bmB newId = true ∧ mg (Str.ofString n) = some (.ref (cc n)) ∧ PySem.W.keepIn K (.ref (cc n)) = true ∧
    PySem.W.subIn K (.ref (cc n)) (.type "BaseException") = some true ∧ PySem.W.typeIn K (.ref (cc n)) = some (.type "type")
theorem RVs.renv {K : KF} {μ : Nat → Addr} {n : Nat} {R : Hp} : ∀ {ws : List W} {vs : List V} (m : Nat), RVs K μ n R ws vs → REnv K μ n R (ws.map some ++ List.replicate m none) (vs.map some ++ List.replicate m none)
  | _, _, 0, .nil => .nil
  | _, _, m + 1, .nil => .any (RVs.renv m .nil)
  | _, _, m, .cons a b => .hit a (RVs.renv m b)
section
variable {P : Prog} {T : Tab} {cc fa : String → Addr} {K : KF} {mg : Str → Option Value} {P0 : Program} {w : World}
/-- the function object, how many parameters -/
def FAt (P : Prog) (K : KF) (f : Addr) (key : String) (fd : FuncData) (ps : List Str) : Prop := (∃ oc od osl, K.lookup f = some ⟨oc, od, .func fd, osl⟩) ∧ ∀ d, P.defs key = some d → d.np = ps.length
theorem fat_of {f : Addr} {key : String} {d : Def} {x qual : Str} {params : Arguments} {body : List Stmt} {scope : Scope} {dvs : List V} {fd : FuncData} {ps : List Str} (F : FunD K x qual params body scope dvs [] f fd) (hd : P.defs key = some d) (e : d.np = ps.length) : FAt P K f key fd ps := by
  obtain ⟨oc, od, dV, kV, doc, pm, an, cdv, ct, osl, _, lk, _⟩ := F.ex
  refine ⟨⟨oc, od, osl, lk⟩, fun d' h => ?_⟩
  rw [hd] at h
  cases h
  exact e
theorem level (G : Good P T cc fa K mg) : ∀ (k : Nat) (key : String) (g : Sig), T.sig key = some g → ∃ (fd : FuncData) (ps : List Str), (∀ base : Heap, FnOk P0 w K mg base (L2.CX P0 w) (2 * k) (fa key) fd ps (spF K cc (cfgN P k).call key)) ∧ BindOk K g fd ps ∧ FAt P K (fa key) key fd ps
  | 0, key, g, hg => by
    obtain ⟨d, hd⟩ := G.sig key g hg
    obtain ⟨x, qual, params, body, scope, dvs, fd, N, ps, g', e1, F, S, e2, e3, hchk, hb⟩ := (G.defs key d hd).ex
    rw [hg] at e1
    cases e1
    refine ⟨fd, ps, fun base => ⟨fun vs H Q E h => ?_, fun A outer s H args us vs Q E hr e0 hb' r h => ?_⟩, hb, fat_of F hd e2⟩
    · obtain ⟨ws, S, μ, R, F, L, r, q⟩ := h
      exact False.elim q
    · obtain ⟨ws, S, μ, R, F, L, r, q⟩ := h
      exact False.elim q
  | k + 1, key, g, hg => by
    obtain ⟨d, hd⟩ := G.sig key g hg
    obtain ⟨x, qual, params, body, scope, dvs, fd, N, ps, g', e1, F, S, e2, e3, hchk, hb⟩ := (G.defs key d hd).ex
    rw [hg] at e1
    cases e1
    have ecall : ∀ ws S, (cfgN P (k + 1)).call key ws S = runDef (cfgN P k) d ws S := fun ws S => by
      show (match P.defs key with
        | some f => runDef (cfgN P k) f ws S
        | none => .fail) = _
      rw [hd]
    have hlen : ∀ {ws : List W} {S : St} {Pp : W → St → Prop} {Ee : String → St → Prop}, (runDef (cfgN P k) d ws S).post Pp Ee → ws.length = d.np ∧ ((exSs (cfgN P k) d.body (startE d.ns ws) S).bind fun fl S => match fl with
        | .nx _ => .ok (.d .none) S
        | .ret w => .ok w S
        | _ => .fail).post Pp Ee := fun {ws S Pp Ee} h => by
      unfold runDef at h
      split at h
      · exact ⟨by assumption, h⟩
      · exact False.elim h
    refine ⟨fd, ps, fun base => ?_, hb, fat_of F hd e2⟩
    refine F.ok (k := 2 * k + 1) (CX := L2.CX P0 w) S (fun vs H Q E h => ?_) fun cdv A outer s H vs Q E hr h => ?_
    · obtain ⟨ws, S, μ, R, F, L, r, q⟩ := h
      rw [ecall] at q
      rw [← r.length, (hlen q).1, e2]
    obtain ⟨ws, S0, μ, R, Fr, L, r, q⟩ := h
    rw [ecall] at q
    obtain ⟨hl, q⟩ := hlen q
    have tk0 := takes_of (X := cxOf (L2.CX P0 w) P0 w K mg base N qual scope (fa key) cdv A outer s H E) (E := E) rfl rfl rfl rfl
    have hro : Room (2 * k + 1) (cxOf (L2.CX P0 w) P0 w K mg base N qual scope (fa key) cdv A outer s H E).A := hr
    have am : Amb (cxOf (L2.CX P0 w) P0 w K mg base N qual scope (fa key) cdv A outer s H E) T cc (cfgN P k) (fun c H' => E (.ref (cc c)) none H') := by
      refine ⟨rfl, S.nd, ?_, G.blt, ?_, fun n g h1 h2 => ?_, fun cl m key2 h => ?_, fun cl key2 h => ?_, ?_, ?_⟩
      · have := hro.un
        omega
      · cases k <;> exact G.glb
      · obtain ⟨q1, q2⟩ := G.call n g h1 h2
        obtain ⟨fd, ps, F, B, _⟩ := level G k n g h1
        exact ⟨fa n, q1, q2, ⟨fd, ps, 2 * k, F base, hr, B.1⟩⟩
      · have h : P.mth cl m = some key2 := by cases k <;> exact h
        obtain ⟨⟨g2, q1⟩, q2, q3, q4⟩ := G.mth cl m key2 h
        obtain ⟨fd, ps, F, B, _⟩ := level G k key2 g2 q1
        exact ⟨fa key2, g2, q1, q2, q3, q4, ⟨fd, ps, 2 * k, F base, hr, B.1⟩⟩
      · have h : P.ini cl = some key2 := by cases k <;> exact h
        obtain ⟨⟨g2, q1⟩, q2, q3⟩ := G.ini cl key2 h
        obtain ⟨fd, ps, F, B, _⟩ := level G k key2 g2 q1
        exact ⟨fa key2, g2, q1, q2, q3, ⟨fd, ps, 2 * k, F base, hr, B.1⟩⟩
      · cases k <;> exact G.fls
      · exact passes_call tk0 fun cls dd σ H' z => by
          obtain ⟨c, e1, e2, z⟩ := z
          subst e1
          subst e2
          exact z
    have ams : AmbS (cxOf (L2.CX P0 w) P0 w K mg base N qual scope (fa key) cdv A outer s H E) T cc (cfgN P k) (fun c H' => E (.ref (cc c)) none H') := by
      refine ⟨am, tk0.imp fun cls dd σ H' z => ?_, passes_of (K := L2.CX P0 w outer H s E) (E₁ := L2.CX P0 w outer H s E) rfl, fun n hn => ?_⟩
      · obtain ⟨c, e1, e2, z⟩ := z
        subst e1
        subst e2
        exact z
      · obtain ⟨B, newId, initId, bmB, f1, f2, f3, f4, f5, f6⟩ := G.exc n hn
        exact ⟨B, newId, initId, bmB, f1, f2, f3, f4, raises_own f5 f6⟩
    refine ⟨wSs (cxOf (L2.CX P0 w) P0 w K mg base N qual scope (fa key) cdv A outer s H E) body, pss body, ?_⟩
    have fit : Fit (cxOf (L2.CX P0 w) P0 w K mg base N qual scope (fa key) cdv A outer s H E) ⟨N, scope, fun _ => true⟩ := ⟨rfl, rfl, rfl⟩
    have hE : REnv K μ S0.n R (startE d.ns ws) (L2.start N vs) := by
      unfold startE L2.start
      rw [e3, ← r.length]
      exact r.renv _
    refine sndSs T cc (cfgN P k) d.body _ body hchk _ Fr _ (startE d.ns ws) ams fit S0 μ H R (L2.start N vs) _ L hE ?_
    rw [Res.post_bind] at q
    refine Res.post_mono q (fun fl S1 z => ?_) fun _ _ z => z
    cases fl with
    | nx e => exact fun μ' H' R' σ' g L' _ => z μ' H' R' .non g L' (.d .non)
    | ret w => exact z
    | bk e => exact False.elim z
    | ct e => exact False.elim z
/-- the law's def -/
theorem top_ok (G : Good P T cc fa K mg) {k : Nat} (hsig : T.sig "law" = some ⟨[]⟩) (h : ∀ ns : List Int, ns.length ≤ 63 → (∀ z ∈ ns, Builtin.Int.intBits z ≤ 1048576) → ((cfgN P k).call "law" [.scr ns] St.nil).post (fun w _ => w = .d (.bool true)) fun _ _ => False) :
    ∃ (fd : FuncData) (ps : List Str), (∀ base : Heap, FnOk P0 w K mg base (L2.CX P0 w) (2 * k) (fa "law") fd ps (spF K cc (cfgN P k).call "law")) ∧ BindOk K ⟨[]⟩ fd ps ∧ FAt P K (fa "law") "law" fd ps ∧
      ∀ (H : Hp) (a : Addr) (ns : List Int), ns.length ≤ 63 → (∀ z ∈ ns, Builtin.Int.intBits z ≤ 1048576) → SqL K H a (ns.map V.int) → spF K cc (cfgN P k).call "law" [.ref a] H (fun v _ => v = .bl true) fun _ _ _ => False := by
  obtain ⟨fd, ps, F, B, A⟩ := level (P0 := P0) (w := w) G k "law" _ hsig
  refine ⟨fd, ps, F, B, A, fun H a ns hl hbits hs => ⟨[.scr ns], St.nil, fun _ => 0, H, fun _ => none, ⟨fun _ _ z => (by cases z), fun _ _ _ _ z => (by cases z), fun _ _ z => (by cases z), fun _ _ z => z, fun _ _ z => (by cases z), fun _ _ z => (by cases z)⟩, .cons (.scr hs) .nil, ?_⟩⟩
  refine Res.post_mono (h ns hl hbits) (fun w' S' e => ?_) fun _ _ z => z.elim
  subst e
  intro μ' H' R' v g L r
  cases r with
  | d hd =>
    cases hd with
    | bl b => rfl
end
end Py

/-! Glue: a program as data; what a head must tell of it. -/
namespace Py
open PySem PySem.Spec PyProof.Rows L2

structure TopD where
  key : String
  cls : Option String
  name : String
  qual : String
  st : Stmt
  N : List String
  d : Def
structure Mod where
  defs : List TopD
  glbs : List (String × PyData)
  meths : List (String × String × String)
  inits : List (String × String)
  flds : List (String × List String)
  excs : List String
  fuel : Nat
def sOf (l : List String) : List Str := l.map Str.ofString
def TopD.at_ (t : TopD) : Str × Option Str := match t.cls with
  | none => (Str.ofString t.name, none)
  | some c => (Str.ofString c, some (Str.ofString t.name))
def TopD.ps (t : TopD) : List Str := sOf (t.N.take t.d.np)
def dvOf : PyData → He.Dv
  | .int i => .int i
  | _ => .non
def TopD.dd (t : TopD) : He.DefD := ⟨t.at_, Str.ofString t.name, Str.ofString t.qual, defArgs t.st, defBody t.st, defScope t.st, t.d.dfl.map dvOf, []⟩
def findD (key : String) : List TopD → Option TopD
  | [] => none
  | t :: r => if t.key = key then some t else findD key r
def find3 (cl m : String) : List (String × String × String) → Option String
  | [] => none
  | (c, n, k) :: r => if c = cl ∧ n = m then some k else find3 cl m r
def Mod.prog (M : Mod) : Prog := ⟨fun key => (findD key M.defs).map (·.d), fun cl m => find3 cl m M.meths, fun cl => M.inits.lookup cl, fun cl => (M.flds.lookup cl).getD [], fun n => M.glbs.lookup n, M.fuel⟩
def Mod.tab (M : Mod) : Tab := ⟨fun key => (findD key M.defs).map fun t => ⟨t.d.dfl⟩, fun cl m => find3 cl m M.meths, fun cl => M.inits.lookup cl, (M.defs.filter (·.cls.isSome)).map (·.key), M.excs, fun m => (M.meths.filter fun q => q.2.1 == m).map (·.2.2)⟩
def bltN : List Str := ["len", "list", "sorted", "all", "any", "str", "int", "min", "max", "sum", "tuple", "abs", "isinstance", "range", "reversed", "enumerate", "zip", "bool"]
def Mod.clss (M : Mod) : List String := M.flds.map (·.1)
def Mod.facts (M : Mod) : List He.Fa :=
  bltN.map .free ++ (M.defs.filter (·.cls.isNone)).map (fun t => .glo (Str.ofString t.name)) ++ M.clss.map (fun c => .cls (Str.ofString c)) ++ M.clss.map (fun c => .glo (Str.ofString c)) ++
    (M.flds.flatMap fun q => q.2.map fun f => .noat (Str.ofString q.1) (Str.ofString f)) ++ M.meths.map (fun q => .meth (Str.ofString q.1) (Str.ofString q.2.1)) ++ M.inits.map (fun q => .mkr (Str.ofString q.1)) ++
    M.excs.map (fun n => .exc (Str.ofString n)) ++ M.excs.map (fun n => .glo (Str.ofString n))
def Mod.fns (M : Mod) : List He.DefD := M.defs.map TopD.dd
def faOf (M : Mod) (K : KF) (key : String) : Addr := match findD key M.defs with
  | some t => He.fAd K t.at_
  | none => 0
def ccOf (K : KF) (n : String) : Addr := He.ga K (Str.ofString n)
def strDv : PyData → Option He.Dv
  | .str x => some (.str x)
  | .int i => some (.int i)
  | _ => none
def allDv : List PyData → Option (List He.Dv)
  | [] => some []
  | x :: r => match strDv x, allDv r with
    | some d, some ds => some (d :: ds)
    | _, _ => none
/-- a global's data: a tuple of three or more texts or numbers; a text; a number -/
def glbB (K : KF) (n : String) : PyData → Bool
  | .tuple ds => (He.Fa.glo (Str.ofString n)).ok K && decide (3 ≤ ds.length) && (match allDv ds with
    | some vs => He.tupB K (Str.ofString n) vs
    | none => false)
  | .int i => (He.Fa.int (Str.ofString n) i).ok K
  | .str z => (He.Fa.str (Str.ofString n) z).ok K
  | _ => false
def Mod.ex (M : Mod) (K : KF) : Bool := (M.glbs.all fun q => glbB K q.1 q.2) && (M.meths.all fun q => decide (He.ma K (He.ga K (Str.ofString q.1)) (Str.ofString q.2.1) = faOf M K q.2.2)) &&
  (M.inits.all fun q => decide (He.ma K (He.ga K (Str.ofString q.1)) "__init__" = faOf M K q.2))
def scopeB (N ps : List Str) (sc : Scope) : Bool :=
  (match sc.kind with | .function => true | _ => false) && !sc.isCoroutine && !sc.isGenerator && decide N.Nodup && decide (N.take ps.length = ps) &&
    (ps.all fun x => decide (sc.names.lookup x = some .local) || decide (sc.names.lookup x = some .cell)) && sc.names.all fun y => !(y.2 == .free)
theorem scopeB_ok {N ps : List Str} {sc : Scope} (h : scopeB N ps sc = true) : FnScope N ps sc := by
  unfold scopeB at h
  simp only [Bool.and_eq_true, Bool.not_eq_true', decide_eq_true_eq, List.all_eq_true, Bool.or_eq_true] at h
  obtain ⟨⟨⟨⟨⟨⟨h1, h2⟩, h3⟩, h4⟩, h5⟩, h6⟩, h7⟩ := h
  refine ⟨?_, h2, h3, h4, h5, h6, fun y hy e => ?_⟩
  · split at h1
    · assumption
    · cases h1
  · have := h7 y hy
    rw [e] at this
    cases this
def TopD.okB (T : Tab) (t : TopD) : Bool := scopeB (sOf t.N) t.ps (defScope t.st) && decide (t.d.np = t.ps.length) && decide (t.d.ns = t.N.length) && chkSs T ⟨sOf t.N, defScope t.st, fun _ => true⟩ t.d.body (defBody t.st)
/-- the parts of a program that are checked apart -/
def Mod.okB (M : Mod) : Bool := (M.meths.all fun q => (findD q.2.2 M.defs).isSome && M.clss.contains q.1) && (M.inits.all fun q => (findD q.2 M.defs).isSome && M.clss.contains q.1) &&
  (M.defs.all fun t => t.cls.isSome || decide (t.key = t.name))
def BT (t : TopD) : Prop := ∀ (K : KF) (f : Addr) (fd : FuncData), FunD K (Str.ofString t.name) (Str.ofString t.qual) (defArgs t.st) (defBody t.st) (defScope t.st) (t.dd.dvs K) [] f fd → BindOk K ⟨t.d.dfl⟩ fd t.ps
def AllP {α : Type} (p : α → Prop) : List α → Prop
  | [] => True
  | a :: r => p a ∧ AllP p r
theorem AllP.get {α : Type} {p : α → Prop} : ∀ {l : List α}, AllP p l → ∀ a, a ∈ l → p a
  | [], _, a, m => absurd m (by simp)
  | b :: r, h, a, m => by
    rcases List.mem_cons.mp m with e | m
    · rw [e]
      exact h.1
    · exact AllP.get h.2 a m
theorem bind0 {t : TopD} (h0 : t.d.dfl = []) (h : ∀ (body : List Stmt) (scope : Scope) (kV doc pm : Value) (an : Option Addr) (cdv ct : Value) (us : List Value), us.length = t.ps.length → bindArgs (PySem.W.fnOf (Str.ofString t.name) (Str.ofString t.qual) (defArgs t.st) body scope .none kV doc pm an cdv ct) ⟨us, []⟩ = pure (t.ps.zip us)) : BT t := by
  intro K f fd F
  have e3 : t.dd.dvs K = [] := by
    show (t.d.dfl.map dvOf).map (He.Dv.v K) = []
    rw [h0]
    rfl
  rw [e3] at F
  refine ⟨fun ds e1 e2 => ?_, fun _ s us hl => F.bindsA (fun kV doc pm an cdv ct us hl => h _ _ kV doc pm an cdv ct us hl) s us hl⟩
  have e4 : ds = [] := by
    rw [h0] at e2
    exact List.length_eq_zero_iff.mp (Nat.le_zero.mp e2)
  subst e4
  exact ⟨[], [], .nil, .nil, F.bindsN fun kV doc pm an cdv ct us hl => h _ _ kV doc pm an cdv ct us hl⟩
theorem bind1 {t : TopD} {i : Int} (h0 : t.d.dfl = [.int i]) (hp : 1 ≤ t.ps.length)
    (hA : ∀ (body : List Stmt) (scope : Scope) (T : Addr) (kV doc pm : Value) (an : Option Addr) (cdv ct : Value) (us its : List Value), us.length = t.ps.length → its.length = 1 →
      ∃ k, bindArgs (PySem.W.fnOf (Str.ofString t.name) (Str.ofString t.qual) (defArgs t.st) body scope (.ref T) kV doc pm an cdv ct) ⟨us, []⟩ = seqItems? (.ref T) >>= k ∧ k (some its.toArray) = pure (t.ps.zip (us ++ its.drop 1)))
    (hB : ∀ (body : List Stmt) (scope : Scope) (T : Addr) (kV doc pm : Value) (an : Option Addr) (cdv ct : Value) (us its : List Value), us.length = t.ps.length - 1 → its.length = 1 →
      ∃ k, bindArgs (PySem.W.fnOf (Str.ofString t.name) (Str.ofString t.qual) (defArgs t.st) body scope (.ref T) kV doc pm an cdv ct) ⟨us, []⟩ = seqItems? (.ref T) >>= k ∧ k (some its.toArray) = pure (t.ps.zip (us ++ its.drop 0))) : BT t := by
  intro K f fd F
  refine ⟨fun ds e1 e2 => ?_, fun z => absurd (show t.d.dfl = [] from z) (by rw [h0]; simp)⟩
  have e3 : t.dd.dvs K = [.int i] := by
    show (t.d.dfl.map dvOf).map (He.Dv.v K) = _
    rw [h0]
    rfl
  rw [e3] at F
  rw [h0] at e1 e2
  match ds, e1, e2 with
  | [], _, _ =>
    obtain ⟨us, v, b⟩ := F.binds1 t.ps.length 1 (by simp) (by simp) fun T kV doc pm an cdv ct us its hl h1 => hA _ _ T kV doc pm an cdv ct us its hl h1
    cases v
    exact ⟨[], [], .nil, .nil, b⟩
  | [d], e1, _ =>
    obtain ⟨us, v, b⟩ := F.binds1 (t.ps.length - 1) 0 (by simp) (by simp; omega) fun T kV doc pm an cdv ct us its hl h1 => hB _ _ T kV doc pm an cdv ct us its hl h1
    have e5 : datasB [.int i] [d] = true := e1
    have e6 := datas_eq e5
    cases e6
    exact ⟨[.int i], us, .cons (.int i) .nil, v, b⟩
  | _ :: _ :: _, _, e2 => exact absurd e2 (by simp)
theorem findD_mem {key : String} : ∀ {l : List TopD} {t : TopD}, findD key l = some t → t ∈ l ∧ t.key = key
  | u :: r, t, h => by
    have h : (if u.key = key then some u else findD key r) = some t := h
    by_cases hk : u.key = key
    · rw [if_pos hk] at h
      cases h
      exact ⟨List.mem_cons_self, hk⟩
    · rw [if_neg hk] at h
      obtain ⟨a, b⟩ := findD_mem h
      exact ⟨List.mem_cons_of_mem _ a, b⟩
theorem find3_mem {cl m k : String} : ∀ {l : List (String × String × String)}, find3 cl m l = some k → (cl, m, k) ∈ l
  | (c, n, k') :: r, h => by
    have h : (if c = cl ∧ n = m then some k' else find3 cl m r) = some k := h
    by_cases hk : c = cl ∧ n = m
    · rw [if_pos hk] at h
      cases h
      obtain ⟨rfl, rfl⟩ := hk
      exact List.mem_cons_self
    · rw [if_neg hk] at h
      exact List.mem_cons_of_mem _ (find3_mem h)
theorem look_mem {α : Type} {k : String} {v : α} : ∀ {l : List (String × α)}, l.lookup k = some v → (k, v) ∈ l
  | (c, n) :: r, h => by
    rw [List.lookup_cons] at h
    cases hb : k == c with
    | true =>
      rw [hb] at h
      cases h
      rw [beq_iff_eq.mp hb]
      exact List.mem_cons_self
    | false =>
      rw [hb] at h
      exact List.mem_cons_of_mem _ (look_mem h)
theorem allDv_ok {K : KF} {R : Hp} : ∀ {ds : List PyData} {vs : List He.Dv}, allDv ds = some vs → DVs K R (vs.map (He.Dv.v K)) ds
  | [], vs, h => by
    cases h
    exact .nil
  | x :: r, vs, h => by
    have h : (match strDv x, allDv r with
      | some d, some ds => some (d :: ds)
      | _, _ => none) = some vs := h
    split at h
    · rename_i d ds e1 e2
      cases h
      refine .cons ?_ (allDv_ok e2)
      cases x <;> first | (cases e1; done) | (cases e1; first | exact .str _ | exact .int _)
    · cases h
theorem good_of {M : Mod} {K : KF} {h : Heap} {mg : Str → Option Value} (X : K.In h) (G : h.Ns mainGlobals mg) (c : He.SaysD M.facts M.fns K) (ex : M.ex K = true) (ok : M.okB = true) (hd : ∀ t ∈ M.defs, t.okB M.tab = true) (hb : ∀ t ∈ M.defs, BT t) :
    Good M.prog M.tab (ccOf K) (faOf M K) K mg := by
  unfold Mod.ex at ex
  simp only [Bool.and_eq_true, List.all_eq_true, decide_eq_true_eq] at ex
  obtain ⟨⟨x1, x2⟩, x3⟩ := ex
  unfold Mod.okB at ok
  simp only [Bool.and_eq_true, List.all_eq_true, Bool.or_eq_true, decide_eq_true_eq] at ok
  obtain ⟨⟨o1, o2⟩, o3⟩ := ok
  have sigE : ∀ {key : String} {t : TopD}, findD key M.defs = some t → M.tab.sig key = some ⟨t.d.dfl⟩ := fun {key t} e => by
    show (findD key M.defs).map (fun t => (⟨t.d.dfl⟩ : Sig)) = _
    rw [e]
    rfl
  have faE : ∀ {key : String} {t : TopD}, findD key M.defs = some t → faOf M K key = He.fAd K t.at_ := fun {key t} e => by
    unfold faOf
    rw [e]
  have cin : ∀ {cl : String}, M.clss.contains cl = true → Cls K (ccOf K cl) ∧ mg (Str.ofString cl) = some (.ref (ccOf K cl)) := fun {cl} hc => by
    have hm : cl ∈ M.clss := by simpa using hc
    refine ⟨He.cls_ok (c.facts (f := .cls (Str.ofString cl)) ?_), He.glo_ok X G (c.facts (f := .glo (Str.ofString cl)) ?_)⟩
    · unfold Mod.facts
      simp only [List.mem_append]
      exact .inl (.inl (.inl (.inl (.inl (.inl (.inr (List.mem_map.mpr ⟨cl, hm, rfl⟩)))))))
    · unfold Mod.facts
      simp only [List.mem_append]
      exact .inl (.inl (.inl (.inl (.inl (.inr (List.mem_map.mpr ⟨cl, hm, rfl⟩))))))
  refine ⟨fun key d e => ?_, fun key g e => ?_, fun x hx => ?_, fun n d e => ?_, fun n g e1 e2 => ?_, fun cl m key e => ?_, fun cl key e => ?_, fun cl f e => ?_, fun n e => ?_⟩
  · obtain ⟨t, e1, e2⟩ := Option.map_eq_some_iff.mp (show (findD key M.defs).map (·.d) = some d from e)
    subst e2
    obtain ⟨hm, hk⟩ := findD_mem e1
    obtain ⟨fd, F⟩ := c.defs (d := t.dd) (List.mem_map.mpr ⟨t, hm, rfl⟩)
    have hz := hd t hm
    unfold TopD.okB at hz
    simp only [Bool.and_eq_true, decide_eq_true_eq] at hz
    obtain ⟨⟨⟨z1, z2⟩, z3⟩, z4⟩ := hz
    refine ⟨⟨Str.ofString t.name, Str.ofString t.qual, defArgs t.st, defBody t.st, defScope t.st, t.dd.dvs K, fd, sOf t.N, t.ps, ⟨t.d.dfl⟩, sigE e1, ?_, scopeB_ok z1, z2, by rw [z3]; simp [sOf], z4, ?_⟩⟩
    · rw [faE e1]
      exact F
    · exact hb t hm K _ fd F
  · obtain ⟨t, e1, e2⟩ := Option.map_eq_some_iff.mp (show (findD key M.defs).map (fun t => (⟨t.d.dfl⟩ : Sig)) = some g from e)
    exact ⟨t.d, by show (findD key M.defs).map (·.d) = _; rw [e1]; rfl⟩
  · refine He.free_ok X G (c.facts (f := .free x) ?_)
    unfold Mod.facts
    simp only [List.mem_append]
    exact .inl (.inl (.inl (.inl (.inl (.inl (.inl (.inl (List.mem_map.mpr ⟨x, hx, rfl⟩))))))))
  · have hm := look_mem (show M.glbs.lookup n = some d from e)
    have z := x1 _ hm
    cases d with
    | tuple ds =>
      have z : ((He.Fa.glo (Str.ofString n)).ok K && decide (3 ≤ ds.length) && (match allDv ds with
        | some vs => He.tupB K (Str.ofString n) vs
        | none => false)) = true := z
      simp only [Bool.and_eq_true, decide_eq_true_eq] at z
      obtain ⟨⟨z1, z2⟩, z3⟩ := z
      split at z3
      · rename_i vs ev
        exact ⟨.ref _, .ref _, He.glo_ok X G z1, rfl, .ktup (He.tupB_ok z3 _) z2 (allDv_ok ev)⟩
      · cases z3
    | int i =>
      obtain ⟨t, q⟩ := He.int_ok X G (show (He.Fa.int (Str.ofString n) i).ok K = true from z)
      exact ⟨.int i, _, q, ⟨t, rfl⟩, .int i⟩
    | str x =>
      obtain ⟨t, q⟩ := He.str_ok X G (show (He.Fa.str (Str.ofString n) x).ok K = true from z)
      exact ⟨.str x, _, q, ⟨t, rfl⟩, .str x⟩
    | _ => cases z
  · obtain ⟨t, e3, e4⟩ := Option.map_eq_some_iff.mp (show (findD n M.defs).map (fun t => (⟨t.d.dfl⟩ : Sig)) = some g from e1)
    obtain ⟨hm, hk⟩ := findD_mem e3
    have hc : t.cls = none := by
      cases q : t.cls with
      | none => rfl
      | some cl =>
        have : M.tab.own.contains n = true := by
          show ((M.defs.filter (·.cls.isSome)).map (·.key)).contains n = true
          rw [List.contains_iff_mem]
          exact List.mem_map.mpr ⟨t, List.mem_filter.mpr ⟨hm, by rw [q]; rfl⟩, hk⟩
        rw [this] at e2
        cases e2
    have hn : t.name = n := by
      rcases o3 t hm with z | z
      · rw [hc] at z
        cases z
      · rw [← z, hk]
    have ea : t.at_ = (Str.ofString n, none) := by
      unfold TopD.at_
      rw [hc, hn]
    obtain ⟨fd, F⟩ := c.defs (d := t.dd) (List.mem_map.mpr ⟨t, hm, rfl⟩)
    have kp := F.kp
    have kp : PySem.W.keepIn K (.ref (He.fAd K t.at_)) = true := kp
    rw [faE e3]
    refine ⟨?_, kp⟩
    rw [ea]
    refine He.glo_ok X G (c.facts (f := .glo (Str.ofString n)) ?_)
    unfold Mod.facts
    simp only [List.mem_append]
    exact .inl (.inl (.inl (.inl (.inl (.inl (.inl (.inr (List.mem_map.mpr ⟨t, List.mem_filter.mpr ⟨hm, by rw [hc]; rfl⟩, by rw [hn]⟩))))))))
  · have hm := find3_mem (show find3 cl m M.meths = some key from e)
    obtain ⟨q1, q2⟩ := o1 _ hm
    obtain ⟨t, et⟩ := Option.isSome_iff_exists.mp q1
    refine ⟨⟨_, sigE et⟩, ?_, (cin q2).1, ?_⟩
    · show key ∈ (M.meths.filter fun q => q.2.1 == m).map (·.2.2)
      exact List.mem_map.mpr ⟨(cl, m, key), List.mem_filter.mpr ⟨hm, by simp⟩, rfl⟩
    · have z := He.meth_ok (c.facts (f := .meth (Str.ofString cl) (Str.ofString m)) (by
        unfold Mod.facts
        simp only [List.mem_append]
        exact .inl (.inl (.inl (.inr (List.mem_map.mpr ⟨_, hm, rfl⟩))))))
      have y := x2 _ hm
      rw [← y]
      exact z
  · have hm := look_mem (show M.inits.lookup cl = some key from e)
    obtain ⟨q1, q2⟩ := o2 _ hm
    obtain ⟨t, et⟩ := Option.isSome_iff_exists.mp q1
    refine ⟨⟨_, sigE et⟩, ?_, (cin q2).2⟩
    have z := He.mkr_ok (c.facts (f := .mkr (Str.ofString cl)) (by
        unfold Mod.facts
        simp only [List.mem_append]
        exact .inl (.inl (.inr (List.mem_map.mpr ⟨_, hm, rfl⟩)))))
    have y := x3 _ hm
    rw [← y]
    exact z
  · have e : ((M.flds.lookup cl).getD []).contains f = true := e
    cases q : M.flds.lookup cl with
    | none =>
      rw [q] at e
      cases e
    | some fs =>
      rw [q] at e
      have hm := look_mem q
      have hf : f ∈ fs := by simpa using e
      refine ⟨(cin (cl := cl) (by
        show M.clss.contains cl = true
        rw [List.contains_iff_mem]
        exact List.mem_map.mpr ⟨_, hm, rfl⟩)).1, He.noat_ok (c.facts (f := .noat (Str.ofString cl) (Str.ofString f)) ?_)⟩
      unfold Mod.facts
      simp only [List.mem_append]
      exact .inl (.inl (.inl (.inl (.inr (List.mem_flatMap.mpr ⟨_, hm, List.mem_map.mpr ⟨f, hf, rfl⟩⟩)))))
  · have hm : n ∈ M.excs := by simpa using (show M.excs.contains n = true from e)
    obtain ⟨z1, z2, z3, z4⟩ := He.exc_ok (c.facts (f := .exc (Str.ofString n)) (by
      unfold Mod.facts
      simp only [List.mem_append]
      exact .inl (.inr (List.mem_map.mpr ⟨_, hm, rfl⟩))))
    have z5 := He.glo_ok X G (c.facts (f := .glo (Str.ofString n)) (by
      unfold Mod.facts
      simp only [List.mem_append]
      exact .inr (List.mem_map.mpr ⟨_, hm, rfl⟩)))
    exact ⟨_, _, _, _, PySem.F.excBase_ValueError, z1, z5, z2, z3, z4⟩
theorem cx_none {P : Program} {w : World} {H : Hp} {s : Shared} {e : Value} {s' : Shared} : L2.CX P w [] H s (fun _ _ _ => False) e s' → False := fun ⟨_, _, _, _, _, _, _, _, _, _, _, _, z⟩ => z
/-- the end: a law's text from its program as data -/
theorem walk_ours {l : PySem.W.OpenLaw} {q : Program} {loose : List Str} {XP : (Str → Option Value) → Heap → Prop} {YP : World → Heap → Prop} {d : DefRec} (k : Nat) (hn : l.most = some 63) (hdf : d.params.defaults = []) (hr : Room k callerA)
    (F : ∀ (w : World) (mg : Str → Option Value) (fa : Addr) (h : Heap), YP w h → h.Ns mainGlobals mg → mg d.name = some (.ref fa) →
      ∃ (K : PySem.W.Frag) (fd : FuncData) (sp : Sp) (x : Str), K.In h ∧ (∀ (s : Shared) (u : Value), BindsTo s fd ⟨[u], []⟩ [(x, u)]) ∧
        (∀ (H : Hp) (a : Addr) (ns : List Int), ns.length ≤ 63 → (∀ z ∈ ns, Builtin.Int.intBits z ≤ 1048576) → SqL K H a (ns.map V.int) → sp [.ref a] H (fun v _ => v = .bl true) fun _ _ _ => False) ∧
        ∀ base : Heap, FnOk l.prog w K mg base (L2.CX l.prog w) k fa fd [x] sp) : PySem.W.WalkO q loose XP YP l.row.toRowW d [] (fun f vs => PySem.call f vs) := by
  refine Att.attach_callB hn hdf fun w sA sB mg mb fa o pm cd doc a vs ns G Y _ _ _ hm hob his hle hbi hgn => ?_
  obtain ⟨K, fd, sp, x, inK, b, prom, FO⟩ := F w mg fa _ Y G.T.g hm
  have le63 : ns.length ≤ sizeLine := Nat.le_trans hle (by decide)
  exact law_call inK G.T.g G.T.b G.T.builtins G.T.nolimit hgn hob his le63 hr (fun base _ _ => FO base) b (fun H _ hS => prom H a ns hle hbi hS) fun H e s' => cx_none
theorem facts_ours {M : Mod} {P0 : Program} {w : World} {K : KF} {h : Heap} {mg : Str → Option Value} {f : Addr} {t : TopD} (k : Nat) (X : K.In h) (G : h.Ns mainGlobals mg) (c : He.SaysD M.facts M.fns K) (ex : M.ex K = true) (ok : M.okB = true) (hd : ∀ t ∈ M.defs, t.okB M.tab = true) (hb : ∀ t ∈ M.defs, BT t)
    (ht : findD "law" M.defs = some t) (h1 : t.d.dfl = []) (h2 : t.d.np = 1) (h3 : t.at_ = (Str.ofString "law", none)) (hf : mg (Str.ofString "law") = some (.ref f))
    (hown : M.tab.own.contains "law" = false)
    (hl : ∀ ns : List Int, ns.length ≤ 63 → (∀ z ∈ ns, Builtin.Int.intBits z ≤ 1048576) → ((cfgN M.prog k).call "law" [.scr ns] St.nil).post (fun w _ => w = .d (.bool true)) fun _ _ => False) :
    ∃ (fd : FuncData) (sp : Sp) (x : Str), (∀ (s : Shared) (u : Value), BindsTo s fd ⟨[u], []⟩ [(x, u)]) ∧
        (∀ (H : Hp) (a : Addr) (ns : List Int), ns.length ≤ 63 → (∀ z ∈ ns, Builtin.Int.intBits z ≤ 1048576) → SqL K H a (ns.map V.int) → sp [.ref a] H (fun v _ => v = .bl true) fun _ _ _ => False) ∧
        ∀ base : Heap, FnOk P0 w K mg base (L2.CX P0 w) (2 * k) f fd [x] sp := by
  have GG := good_of X G c ex ok hd hb
  obtain ⟨fd, ps, FO, B, A, sp⟩ := top_ok (P0 := P0) (w := w) GG (k := k) (by show (findD "law" M.defs).map (fun t => (⟨t.d.dfl⟩ : Sig)) = _; rw [ht]; show some (⟨t.d.dfl⟩ : Sig) = _; rw [h1]) hl
  have ea : faOf M K "law" = He.fAd K t.at_ := by
    unfold faOf
    rw [ht]
  have np := A.2 t.d (by show (findD "law" M.defs).map (·.d) = _; rw [ht]; rfl)
  obtain ⟨x, rfl⟩ : ∃ x, ps = [x] := by
    rw [h2] at np
    match ps, np with
    | [x], _ => exact ⟨x, rfl⟩
  have ef : faOf M K "law" = f := by
    rw [ea]
    have z := (GG.call "law" ⟨[]⟩ (by show (findD "law" M.defs).map (fun t => (⟨t.d.dfl⟩ : Sig)) = _; rw [ht]; show some (⟨t.d.dfl⟩ : Sig) = _; rw [h1]) hown).1
    rw [hf, ea] at z
    cases z
    rfl
  rw [ef] at FO
  exact ⟨fd, _, x, fun s u => B.2 rfl s [u] rfl, sp, FO⟩
end Py

namespace K47
open PySem PySem.Spec PyProof.Rows L2 Py

abbrev top (i : Nat) : Stmt := PySem.Challenge.pw_manygoings_k47_what_is_a_program.main.body.getD i (.Pass ⟨0, 0, 0, 0⟩)

abbrev clsB (s : Stmt) (j : Nat) : Stmt := match s with
  | .ClassDef _ _ _ b .. => b.getD j (.Pass ⟨0, 0, 0, 0⟩)
  | s => s

def d_is_whole : Def := ⟨1, 1, [], [
  .ret (.and (.isin (.v 0) ["int"]) (.not (.isin (.v 0) ["bool"])))]⟩
def t_is_whole : TopD := ⟨"is_whole", none, "is_whole", "is_whole", top 1, ["thing"], d_is_whole⟩

def d_is_row : Def := ⟨2, 2, [], [
  .ite (.or (.not (.e (.isin (.v 0) ["tuple"]))) (.or (.e (.cmp .lt (.bi true .len [(.v 0)]) (.k (.int 1)))) (.e (.cmp .gt (.bi true .len [(.v 0)]) (.k (.int 2)))))) [
    .ret (.k (.bool false))] [],
  .ite (.not (.e (.isin (.ix (.v 0) (.k (.int 0))) ["str"]))) [
    .ret (.k (.bool false))] [],
  .ite (.e (.cmp .eq (.bi true .len [(.v 0)]) (.k (.int 1)))) [
    .ret (.cmp .in_ (.ix (.v 0) (.k (.int 0))) (.g "BARE"))] [],
  .ite (.not (.e (.call "is_whole" [(.ix (.v 0) (.k (.int 1)))] []))) [
    .ret (.k (.bool false))] [],
  .ite (.e (.cmp .eq (.ix (.v 0) (.k (.int 0))) (.k (.str "put")))) [
    .ret (.k (.bool true))] [],
  .ite (.e (.cmp .in_ (.ix (.v 0) (.k (.int 0))) (.g "REACHING"))) [
    .ret (.cmp .ge (.ix (.v 0) (.k (.int 1))) (.k (.int 0)))] [],
  .ret (.and (.cmp .in_ (.ix (.v 0) (.k (.int 0))) (.g "LEADING")) (.chain .le .le (.k (.int 0)) (.ix (.v 0) (.k (.int 1))) (.v 1)))]⟩
def t_is_row : TopD := ⟨"is_row", none, "is_row", "is_row", top 6, ["thing", "many"], d_is_row⟩

def d_is_program : Def := ⟨1, 2, [], [
  .ite (.not (.e (.isin (.v 0) ["list"]))) [
    .ret (.k (.bool false))] [],
  .for_ (.v 1) .seq [(.v 0)] [
    .ite (.not (.e (.call "is_row" [(.v 1), (.bi true .len [(.v 0)])] []))) [
      .ret (.k (.bool false))] []],
  .ret (.k (.bool true))]⟩
def t_is_program : TopD := ⟨"is_program", none, "is_program", "is_program", top 7, ["thing", "row"], d_is_program⟩

def d__law_cell_at : Def := ⟨2, 2, [], [
  .ite (.e (.cmp .lt (.v 1) (.bi true .len [(.v 0)]))) [
    .ret (.ix (.v 0) (.v 1))] [],
  .ret (.k (.int 0))]⟩
def t__law_cell_at : TopD := ⟨"_law_cell_at", none, "_law_cell_at", "_law_cell_at", top 9, ["script", "k"], d__law_cell_at⟩

def d__law_bag : Def := ⟨1, 1, [], [
  .ret (.lst false [(.bi false .max_ [(.k (.int 1)), (.bin false .sub (.v 0) (.bin false .pow (.k (.int 10)) (.k (.int 18))))]), (.bin false .mod (.v 0) (.k (.int 1000000007))), (.k (.int 0))])]⟩
def t__law_bag : TopD := ⟨"_law_bag", none, "_law_bag", "_law_bag", top 10, ["cell"], d__law_bag⟩

def d__law_draw : Def := ⟨2, 3, [], [
  .ite (.e (.cmp .gt (.ix (.v 0) (.k (.int 0))) (.k (.int 1)))) [
    .asg (.v 2) (.bin true .mod (.ix (.v 0) (.k (.int 0))) (.v 1)),
    .sset (.v 0) (.k (.int 0)) (.bin true .fdiv (.ix (.v 0) (.k (.int 0))) (.v 1)),
    .ret (.v 2)] [],
  .sset (.v 0) (.k (.int 2)) (.bin true .add (.ix (.v 0) (.k (.int 2))) (.k (.int 1))),
  .asg (.v 2) (.bin true .mod (.bin true .add (.ix (.v 0) (.k (.int 1))) (.bin true .mul (.ix (.v 0) (.k (.int 2))) (.k (.int 7368787)))) (.k (.int 2147483647))),
  .asg (.v 2) (.bin true .mod (.bin true .add (.bin true .pow (.v 2) (.k (.int 5))) (.bin true .mul (.ix (.v 0) (.k (.int 2))) (.k (.int 15485863)))) (.k (.int 2147483629))),
  .ret (.bin true .mod (.bin true .fdiv (.bin true .mod (.bin true .pow (.v 2) (.k (.int 7))) (.k (.int 2147483587))) (.k (.int 32))) (.v 1))]⟩
def t__law_draw : TopD := ⟨"_law_draw", none, "_law_draw", "_law_draw", top 11, ["bag", "many", "one"], d__law_draw⟩

def d__law_number : Def := ⟨1, 3, [], [
  .asg (.v 1) (.call "_law_draw" [(.v 0), (.k (.int 4))] []),
  .ite (.e (.cmp .eq (.v 1) (.k (.int 0)))) [
    .ret (.bin true .sub (.call "_law_draw" [(.v 0), (.k (.int 5))] []) (.k (.int 2)))] [],
  .ite (.e (.cmp .eq (.v 1) (.k (.int 1)))) [
    .ret (.bin true .sub (.call "_law_draw" [(.v 0), (.k (.int 201))] []) (.k (.int 100)))] [],
  .asg (.v 2) (.bin true .add (.bin true .add (.bin true .mul (.call "_law_draw" [(.v 0), (.bin true .pow (.k (.int 10)) (.k (.int 20)))] []) (.bin true .pow (.k (.int 10)) (.k (.int 40)))) (.bin true .mul (.call "_law_draw" [(.v 0), (.bin true .pow (.k (.int 10)) (.k (.int 20)))] []) (.bin true .pow (.k (.int 10)) (.k (.int 20))))) (.call "_law_draw" [(.v 0), (.bin true .pow (.k (.int 10)) (.k (.int 20)))] [])),
  .ite (.e (.cmp .eq (.v 1) (.k (.int 2)))) [
    .ret (.v 2)] [],
  .ret (.bin true .sub (.k (.int 0)) (.v 2))]⟩
def t__law_number : TopD := ⟨"_law_number", none, "_law_number", "_law_number", top 12, ["bag", "way", "great"], d__law_number⟩

def d__law_row : Def := ⟨2, 4, [], [
  .asg (.v 2) (.lst true [(.k (.str "put")), (.k (.str "pick")), (.k (.str "drop")), (.k (.str "lift")), (.k (.str "go")), (.k (.str "back")), (.k (.str "keep")), (.k (.str "call")), (.k (.str "jump")), (.k (.str "if"))]),
  .asg (.v 2) (.bin true .add (.v 2) (.lst true [(.k (.str "add")), (.k (.str "less")), (.k (.str "box")), (.k (.str "get")), (.k (.str "set")), (.k (.str "tell")), (.k (.str "sweep"))])),
  .asg (.v 3) (.call "_law_draw" [(.v 0), (.k (.int 17))] []),
  .ite (.e (.cmp .eq (.v 3) (.k (.int 0)))) [
    .ret (.tup [(.k (.str "put")), (.call "_law_number" [(.v 0)] [])])] [],
  .ite (.e (.cmp .lt (.v 3) (.k (.int 6)))) [
    .ret (.tup [(.ix (.v 2) (.v 3)), (.bi true .abs_ [(.call "_law_number" [(.v 0)] [])])])] [],
  .ite (.and (.e (.cmp .lt (.v 3) (.k (.int 10)))) (.e (.cmp .eq (.call "_law_draw" [(.v 0), (.k (.int 3))] []) (.k (.int 0))))) [
    .ret (.tup [(.ix (.v 2) (.v 3)), (.v 1)])] [],
  .ite (.e (.cmp .lt (.v 3) (.k (.int 10)))) [
    .ret (.tup [(.ix (.v 2) (.v 3)), (.call "_law_draw" [(.v 0), (.bin true .add (.v 1) (.k (.int 1)))] [])])] [],
  .ret (.tup [(.ix (.v 2) (.v 3))])]⟩
def t__law_row : TopD := ⟨"_law_row", none, "_law_row", "_law_row", top 13, ["bag", "many", "words", "at"], d__law_row⟩

def d__law_odd : Def := ⟨1, 2, [], [
  .asg (.v 1) (.lst false [(.k .none), (.k (.bool true)), (.k (.bool false)), (.k (.str "1")), (.k (.str "")), (.k (.str "add")), (.tup []), (.lst true []), .dK, (.k (.int 1)), (.k (.int 0)), (.neg (.k (.int 1)))]),
  .asg (.v 1) (.bin false .add (.v 1) (.lst true [(.tup [(.k (.str "add"))]), (.lst true [(.k (.str "add"))]), (.tup [(.k (.str "put")), (.k (.int 1))]), (.tup [(.k (.str "put"))]), (.tup [(.k (.str "add")), (.k (.int 1))]), (.tup [(.k .none)]), (.tup [(.k (.int 0)), (.k (.int 0))]), (.tup [(.k (.str "jump")), (.k (.int 0))])])),
  .ret (.ix (.v 1) (.call "_law_draw" [(.v 0), (.k (.int 20))] []))]⟩
def t__law_odd : TopD := ⟨"_law_odd", none, "_law_odd", "_law_odd", top 14, ["bag", "some"], d__law_odd⟩

def d__law_other_word : Def := ⟨2, 5, [], [
  .asg (.v 2) (.call "_law_draw" [(.v 0), (.k (.int 4))] []),
  .asg (.v 3) (.k (.str "abcdefghijklmnopqrstuvwxyz")),
  .ite (.e (.cmp .eq (.v 2) (.k (.int 0)))) [
    .ret (.bin true .add (.v 1) (.ix (.v 3) (.call "_law_draw" [(.v 0), (.k (.int 26))] [])))] [],
  .ite (.e (.cmp .eq (.v 2) (.k (.int 1)))) [
    .ret (.sl true (.v 1) none (some (.neg (.k (.int 1)))))] [],
  .ite (.e (.cmp .eq (.v 2) (.k (.int 2)))) [
    .ret (.bin true .add (.bm true (.sl true (.v 1) none (some (.k (.int 1)))) .upper []) (.sl true (.v 1) (some (.k (.int 1))) none))] [],
  .ret (.bm true (.k (.str "")) .join [(.comp true [4] (.v 4) .range1 [(.bin true .add (.k (.int 1)) (.call "_law_draw" [(.v 0), (.k (.int 6))] []))] none (.ix (.v 3) (.call "_law_draw" [(.v 0), (.k (.int 26))] [])))])]⟩
def t__law_other_word : TopD := ⟨"_law_other_word", none, "_law_other_word", "_law_other_word", top 15, ["bag", "word", "way", "letters", "k"], d__law_other_word⟩

def d__law_other_row : Def := ⟨4, 5, [], [
  .ite (.e (.cmp .eq (.v 3) (.k (.int 1)))) [
    .asg (.v 4) (.call "_law_draw" [(.v 0), (.bin true .pow (.k (.int 10)) (.k (.int 20)))] []),
    .ret (.tup [(.ix (.v 1) (.k (.int 0))), (.ix (.lst true [(.bin true .sub (.neg (.k (.int 1))) (.v 4)), (.v 2), (.bin true .add (.v 2) (.k (.int 1))), (.bin true .add (.bin true .add (.v 2) (.k (.int 1))) (.v 4)), (.neg (.k (.int 1)))]) (.call "_law_draw" [(.v 0), (.k (.int 5))] []))])] [],
  .ite (.e (.cmp .eq (.v 3) (.k (.int 2)))) [
    .ret (.bin true .add (.tup [(.call "_law_other_word" [(.v 0), (.ix (.v 1) (.k (.int 0)))] [])]) (.sl true (.v 1) (some (.k (.int 1))) none))] [],
  .ite (.and (.e (.cmp .eq (.v 3) (.k (.int 3)))) (.e (.cmp .eq (.bi true .len [(.v 1)]) (.k (.int 2))))) [
    .ret (.sl true (.v 1) none (some (.k (.int 1))))] [],
  .ite (.e (.cmp .eq (.v 3) (.k (.int 3)))) [
    .ret (.bin true .add (.v 1) (.tup [(.call "_law_draw" [(.v 0), (.bin true .add (.v 2) (.k (.int 1)))] [])]))] [],
  .ite (.e (.cmp .eq (.v 3) (.k (.int 4)))) [
    .ret (.tup [(.ix (.v 1) (.k (.int 0))), (.call "_law_odd" [(.v 0)] [])])] [],
  .ite (.e (.cmp .eq (.v 3) (.k (.int 5)))) [
    .ret (.bi true .list_ [(.v 1)])] [],
  .ite (.e (.cmp .eq (.v 3) (.k (.int 6)))) [
    .ret (.call "_law_odd" [(.v 0)] [])] [],
  .ite (.e (.cmp .eq (.v 3) (.k (.int 7)))) [
    .ret (.bin true .add (.tup [(.call "_law_odd" [(.v 0)] [])]) (.sl true (.v 1) (some (.k (.int 1))) none))] [],
  .ret (.bin true .add (.v 1) (.tup [(.k (.int 0))]))]⟩
def t__law_other_row : TopD := ⟨"_law_other_row", none, "_law_other_row", "_law_other_row", top 16, ["bag", "row", "many", "way", "far"], d__law_other_row⟩

def d__law_thing : Def := ⟨2, 4, [], [
  .asg (.v 2) (.call "_law_draw" [(.v 0), (.k (.int 12))] []),
  .ite (.e (.cmp .eq (.v 2) (.k (.int 0)))) [
    .ret (.v 1)] [],
  .ite (.or (.e (.cmp .eq (.v 2) (.k (.int 9)))) (.e (.cmp .eq (.v 1) (.lst true [])))) [
    .ret (.ix (.lst false [(.k .none), (.k (.bool true)), (.k (.int 0)), (.k (.str "")), (.k (.str "add")), (.bi true .tuple_ [(.v 1)]), (.lst true [(.v 1)]), (.disp [(.k (.int 0))] [(.tup [(.k (.str "add"))])]), (.tup [(.k (.str "add"))]), (.lst true [(.tup [])])]) (.call "_law_draw" [(.v 0), (.k (.int 10))] []))] [],
  .ite (.e (.cmp .gt (.v 2) (.k (.int 9)))) [
    .ret (.sl true (.v 1) none (some (.neg (.k (.int 1)))))] [],
  .asg (.v 3) (.call "_law_draw" [(.v 0), (.bi true .len [(.v 1)])] []),
  .ret (.bin false .add (.bin false .add (.sl true (.v 1) none (some (.v 3))) (.lst false [(.call "_law_other_row" [(.v 0), (.ix (.v 1) (.v 3)), (.bi true .len [(.v 1)]), (.v 2)] [])])) (.sl true (.v 1) (some (.bin true .add (.v 3) (.k (.int 1)))) none))]⟩
def t__law_thing : TopD := ⟨"_law_thing", none, "_law_thing", "_law_thing", top 17, ["bag", "rows", "way", "at"], d__law_thing⟩

def d__law_right : Def := ⟨1, 3, [], [
  .ite (.not (.e (.isin (.v 0) ["list"]))) [
    .ret (.k (.bool false))] [],
  .for_ (.v 1) .seq [(.v 0)] [
    .ite (.or (.not (.e (.isin (.v 1) ["tuple"]))) (.or (.e (.cmp .eq (.v 1) (.tup []))) (.not (.e (.isin (.ix (.v 1) (.k (.int 0))) ["str"]))))) [
      .ret (.k (.bool false))] [],
    .ite (.and (.e (.cmp .eq (.bi true .len [(.v 1)]) (.k (.int 1)))) (.e (.cmp .nin (.ix (.v 1) (.k (.int 0))) (.lst true [(.k (.str "add")), (.k (.str "less")), (.k (.str "box")), (.k (.str "get")), (.k (.str "set")), (.k (.str "tell")), (.k (.str "sweep"))])))) [
      .ret (.k (.bool false))] [],
    .ite (.e (.cmp .gt (.bi true .len [(.v 1)]) (.k (.int 2)))) [
      .ret (.k (.bool false))] [],
    .ite (.and (.e (.cmp .eq (.bi true .len [(.v 1)]) (.k (.int 2)))) (.or (.e (.isin (.ix (.v 1) (.k (.int 1))) ["bool"])) (.not (.e (.isin (.ix (.v 1) (.k (.int 1))) ["int"]))))) [
      .ret (.k (.bool false))] [],
    .ite (.and (.e (.cmp .eq (.bi true .len [(.v 1)]) (.k (.int 2)))) (.e (.cmp .ne (.ix (.v 1) (.k (.int 0))) (.k (.str "put"))))) [
      .asg (.v 2) (.cmp .in_ (.ix (.v 1) (.k (.int 0))) (.lst true [(.k (.str "keep")), (.k (.str "call")), (.k (.str "jump")), (.k (.str "if"))])),
      .ite (.or (.e (.cmp .lt (.ix (.v 1) (.k (.int 1))) (.k (.int 0)))) (.and (.e (.v 2)) (.e (.cmp .gt (.ix (.v 1) (.k (.int 1))) (.bi true .len [(.v 0)]))))) [
        .ret (.k (.bool false))] [],
      .ite (.and (.not (.e (.v 2))) (.e (.cmp .nin (.ix (.v 1) (.k (.int 0))) (.lst true [(.k (.str "pick")), (.k (.str "drop")), (.k (.str "lift")), (.k (.str "go")), (.k (.str "back"))])))) [
        .ret (.k (.bool false))] []] []],
  .ret (.k (.bool true))]⟩
def t__law_right : TopD := ⟨"_law_right", none, "_law_right", "_law_right", top 18, ["thing", "row", "leading"], d__law_right⟩

def d_law : Def := ⟨1, 7, [], [
  .asg (.v 1) (.sl true (.v 0) (some (.k (.int 1))) (some (.k (.int 61)))),
  .asg (.v 2) (.comp true [6] (.v 6) .seq [(.v 1)] none (.call "_law_row" [(.call "_law_bag" [(.v 6)] []), (.bi true .len [(.v 1)])] [])),
  .asg (.v 3) (.call "_law_thing" [(.call "_law_bag" [(.call "_law_cell_at" [(.v 0), (.k (.int 0))] [])] []), (.v 2)] []),
  .asg (.v 4) (.v 3),
  .ite (.e (.isin (.v 3) ["list"])) [
    .asg (.v 4) (.bi false .list_ [(.v 3)])] [],
  .asg (.v 5) (.call "is_program" [(.v 3)] []),
  .ite (.or (.not (.e (.isin (.v 5) ["bool"]))) (.or (.e (.cmp .ne (.v 5) (.call "_law_right" [(.v 4)] []))) (.e (.cmp .ne (.v 3) (.v 4))))) [
    .ret (.k (.bool false))] [],
  .ret (.cmp .isN (.call "is_program" [(.v 2)] []) (.k (.bool true)))]⟩
def t_law : TopD := ⟨"law", none, "law", "law", top 19, ["script", "cells", "rows", "thing", "before", "found", "cell"], d_law⟩

def md : Mod := {
  defs := [t_is_whole, t_is_row, t_is_program, t__law_cell_at, t__law_bag, t__law_draw, t__law_number, t__law_row, t__law_odd, t__law_other_word, t__law_other_row, t__law_thing, t__law_right, t_law]
  glbs := [("REACHING", (.tuple [(.str "pick"), (.str "drop"), (.str "lift"), (.str "go"), (.str "back")])), ("LEADING", (.tuple [(.str "keep"), (.str "call"), (.str "jump"), (.str "if")])), ("BARE", (.tuple [(.str "add"), (.str "less"), (.str "box"), (.str "get"), (.str "set"), (.str "tell"), (.str "sweep")]))]
  meths := []
  inits := []
  flds := []
  excs := []
  fuel := 100000 }

theorem hb : ∀ t ∈ md.defs, BT t := AllP.get (l := md.defs) ⟨(show BT t_is_whole from bind0 rfl (fun _ _ _ _ _ _ _ _ us hl => match us, hl with | [_], _ => rfl)), (show BT t_is_row from bind0 rfl (fun _ _ _ _ _ _ _ _ us hl => match us, hl with | [_, _], _ => rfl)), (show BT t_is_program from bind0 rfl (fun _ _ _ _ _ _ _ _ us hl => match us, hl with | [_], _ => rfl)), (show BT t__law_cell_at from bind0 rfl (fun _ _ _ _ _ _ _ _ us hl => match us, hl with | [_, _], _ => rfl)), (show BT t__law_bag from bind0 rfl (fun _ _ _ _ _ _ _ _ us hl => match us, hl with | [_], _ => rfl)), (show BT t__law_draw from bind0 rfl (fun _ _ _ _ _ _ _ _ us hl => match us, hl with | [_, _], _ => rfl)), (show BT t__law_number from bind0 rfl (fun _ _ _ _ _ _ _ _ us hl => match us, hl with | [_], _ => rfl)), (show BT t__law_row from bind0 rfl (fun _ _ _ _ _ _ _ _ us hl => match us, hl with | [_, _], _ => rfl)), (show BT t__law_odd from bind0 rfl (fun _ _ _ _ _ _ _ _ us hl => match us, hl with | [_], _ => rfl)), (show BT t__law_other_word from bind0 rfl (fun _ _ _ _ _ _ _ _ us hl => match us, hl with | [_, _], _ => rfl)), (show BT t__law_other_row from bind0 rfl (fun _ _ _ _ _ _ _ _ us hl => match us, hl with | [_, _, _, _], _ => rfl)), (show BT t__law_thing from bind0 rfl (fun _ _ _ _ _ _ _ _ us hl => match us, hl with | [_, _], _ => rfl)), (show BT t__law_right from bind0 rfl (fun _ _ _ _ _ _ _ _ us hl => match us, hl with | [_], _ => rfl)), (show BT t_law from bind0 rfl (fun _ _ _ _ _ _ _ _ us hl => match us, hl with | [_], _ => rfl)), trivial⟩

theorem k_is_whole : t_is_whole.okB md.tab = true := by decide +kernel

theorem k_is_row : t_is_row.okB md.tab = true := by decide +kernel

theorem k_is_program : t_is_program.okB md.tab = true := by decide +kernel

theorem k__law_cell_at : t__law_cell_at.okB md.tab = true := by decide +kernel

theorem k__law_bag : t__law_bag.okB md.tab = true := by decide +kernel

theorem k__law_draw : t__law_draw.okB md.tab = true := by decide +kernel

theorem k__law_number : t__law_number.okB md.tab = true := by decide +kernel

theorem k__law_row : t__law_row.okB md.tab = true := by decide +kernel

theorem k__law_odd : t__law_odd.okB md.tab = true := by decide +kernel

theorem k__law_other_word : t__law_other_word.okB md.tab = true := by decide +kernel

theorem k__law_other_row : t__law_other_row.okB md.tab = true := by decide +kernel

theorem k__law_thing : t__law_thing.okB md.tab = true := by decide +kernel

theorem k__law_right : t__law_right.okB md.tab = true := by decide +kernel

theorem k_law : t_law.okB md.tab = true := by decide +kernel

theorem hd : ∀ t ∈ md.defs, t.okB md.tab = true := AllP.get (l := md.defs) ⟨k_is_whole, k_is_row, k_is_program, k__law_cell_at, k__law_bag, k__law_draw, k__law_number, k__law_row, k__law_odd, k__law_other_word, k__law_other_row, k__law_thing, k__law_right, k_law, trivial⟩

theorem ok : md.okB = true := by decide +kernel

abbrev R : PySem.W.OpenRow := PySem.W.OpenLaw.row PySem.Challenge.rw_manygoings_k47_what_is_a_program
abbrev hk : PySem.W.Hook := He.hookX 4 md.facts md.fns [] [] md.ex

def ob (s : PySem.W.SharedT) : He.AlX := He.obsX 4 md.facts md.fns [] [] md.ex (HandSHeadRun.getT s)
theorem ob_eq (s : PySem.W.SharedT) : ob s = hk.obs s.abs := He.obsX_eq (HandSHeadRun.getT_eq s)

def loose : List Str := ["is_whole", "is_row", "is_program", "_law_cell_at", "_law_bag", "_law_draw", "_law_number", "_law_row", "_law_odd", "_law_other_word", "_law_other_row", "_law_thing", "_law_right", "REACHING", "LEADING", "BARE"]

end K47

/-! Ev: rows by which the small machine is evaluated. -/
namespace Py
open PySem L2
section
variable {α β : Type} {S : St}
theorem bind_ok {a : α} {f : α → St → Res β} : (Res.ok a S).bind f = f a S := rfl
theorem bind_exc {c : String} {f : α → St → Res β} : (Res.exc c S : Res α).bind f = .exc c S := rfl
theorem bind_fail {f : α → St → Res β} : (Res.fail : Res α).bind f = .fail := rfl
theorem bind_assoc {γ : Type} {r : Res α} {f : α → St → Res β} {g : β → St → Res γ} : (r.bind f).bind g = r.bind fun a s => (f a s).bind g := by cases r <;> rfl
theorem ite_bind {p : Prop} [Decidable p] {x y : Res α} {f : α → St → Res β} : (if p then x else y).bind f = if p then x.bind f else y.bind f := by split <;> rfl
theorem wi_eq (i : Int) : wi i = .d (.int i) := rfl
theorem b_add (f : Bool) (i j : Int) : binM f .add (.d (.int i)) (.d (.int j)) S = .ok (.d (.int (i + j))) S := rfl
theorem b_sub (f : Bool) (i j : Int) : binM f .sub (.d (.int i)) (.d (.int j)) S = .ok (.d (.int (i - j))) S := rfl
theorem b_mul (f : Bool) (i j : Int) (h : mulOk i j = true) : binM f .mul (.d (.int i)) (.d (.int j)) S = .ok (.d (.int (i * j))) S := by
  show okW S ((if mulOk i j then some (i * j) else none).map wi) = _
  rw [if_pos h]
  rfl
theorem b_mod (f : Bool) (i j : Int) (h : 0 < j) : binM f .mod (.d (.int i)) (.d (.int j)) S = .ok (.d (.int (i % j))) S := by
  show okW S ((if 0 < j then some (i % j) else none).map wi) = _
  rw [if_pos h]
  rfl
theorem b_div (f : Bool) (i j : Int) (h : divOk j = true) : binM f .fdiv (.d (.int i)) (.d (.int j)) S = .ok (.d (.int (i / j))) S := by
  show okW S ((if divOk j then some (i / j) else none).map wi) = _
  rw [if_pos h]
  rfl
theorem b_pow (f : Bool) (i j : Int) (h : 0 ≤ j ∧ j ≤ 1000000 ∧ i.natAbs < 2 ^ 64) : binM f .pow (.d (.int i)) (.d (.int j)) S = .ok (.d (.int (i ^ j.toNat))) S := by
  show okW S ((if 0 ≤ j ∧ j ≤ 1000000 ∧ i.natAbs < 2 ^ 64 then some (i ^ j.toNat) else none).map wi) = _
  rw [if_pos h]
  rfl
theorem c_lt (i j : Int) : cmpM .lt (.d (.int i)) (.d (.int j)) S = .ok (.d (.bool (decide (i < j)))) S := rfl
theorem c_le (i j : Int) : cmpM .le (.d (.int i)) (.d (.int j)) S = .ok (.d (.bool (decide (i ≤ j)))) S := rfl
theorem c_gt (i j : Int) : cmpM .gt (.d (.int i)) (.d (.int j)) S = .ok (.d (.bool (decide (j < i)))) S := rfl
theorem c_ge (i j : Int) : cmpM .ge (.d (.int i)) (.d (.int j)) S = .ok (.d (.bool (decide (j ≤ i)))) S := rfl
theorem c_eqI (i j : Int) : cmpM .eq (.d (.int i)) (.d (.int j)) S = .ok (.d (.bool (i == j))) S := rfl
theorem c_neI (i j : Int) : cmpM .ne (.d (.int i)) (.d (.int j)) S = .ok (.d (.bool (!(i == j)))) S := rfl
theorem c_eqS (i j : Str) : cmpM .eq (.d (.str i)) (.d (.str j)) S = .ok (.d (.bool (i == j))) S := rfl
theorem c_neS (i j : Str) : cmpM .ne (.d (.str i)) (.d (.str j)) S = .ok (.d (.bool (!(i == j)))) S := rfl
theorem c_eqB (i j : Bool) : cmpM .eq (.d (.bool i)) (.d (.bool j)) S = .ok (.d (.bool (i == j))) S := rfl
theorem c_neB (i j : Bool) : cmpM .ne (.d (.bool i)) (.d (.bool j)) S = .ok (.d (.bool (!(i == j)))) S := rfl
theorem truB (b : Bool) : truD S (.d (.bool b)) = some b := rfl
theorem set_same (i : Nat) (x : O) : (S.set i x).o i = some x := if_pos rfl
theorem set_ne {i j : Nat} (x : O) (h : j ≠ i) : (S.set i x).o j = S.o j := if_neg h
theorem set_n (i : Nat) (x : O) : (S.set i x).n = S.n := rfl
theorem set_set (i : Nat) (x y : O) : (S.set i x).set i y = S.set i y := by
  unfold St.set
  congr 1
  funext j
  by_cases h : j = i
  · simp [h]
  · simp [h]
theorem push_same (x : O) : (S.push x).o S.n = some x := if_pos rfl
theorem push_ne {j : Nat} (x : O) (h : j ≠ S.n) : (S.push x).o j = S.o j := if_neg h
theorem push_n (x : O) : (S.push x).n = S.n + 1 := rfl
theorem if_tt {α : Type} (x y : α) : (if (true : Bool) = true then x else y) = x := rfl
theorem if_ff {α : Type} (x y : α) : (if (false : Bool) = true then x else y) = y := rfl
end
end Py
namespace Py
open PySem L2
section
variable {c : Cfg} {s : S} {r : List S} {e e' : Ev} {S0 S1 : St} {w : W}
theorem x_nx (h : exS c s e S0 = .ok (.nx e') S1) : exSs c (s :: r) e S0 = exSs c r e' S1 := by
  rw [exSs, h]
  rfl
theorem x_ret (h : exS c s e S0 = .ok (.ret w) S1) : exSs c (s :: r) e S0 = .ok (.ret w) S1 := by
  rw [exSs, h]
  rfl
theorem x_if (t : Tst) (a b : List S) : exS c (.ite t a b) e S0 = (evT c e t S0).bind fun v S1 => if v = true then exSs c a e S1 else exSs c b e S1 := by rw [exS]
theorem x_for (p : Pt) (k : IK) (es : List E) (b : List S) : exS c (.for_ p k es b) e S0 = (evEs c e es S0).bind fun ws S => (itM k ws S).bind fun I S => forL (fun w e S => match bindPt p w e S with
    | some e' => exSs c b e' S
    | none => .fail) I I.ws e S := by
  rw [exS]
  all_goals rfl
theorem run_ret {f : Def} {ws : List W} (hl : ws.length = f.np) (h : exSs c f.body (startE f.ns ws) S0 = .ok (.ret w) S1) : runDef c f ws S0 = .ok w S1 := by
  unfold runDef
  rw [if_pos hl, h]
  rfl
end
end Py
namespace Py
open PySem L2
section
variable {c : Cfg} {e e' : Ev} {S0 S1 : St} {w : W}
theorem e_comp (f : Bool) (own : List Nat) (p : Pt) (k : IK) (es : List E) (cd : Option Tst) (el : E) : evE c e (.comp f own p k es cd el) S0 = (evEs c e es S0).bind fun ws S => (itM k ws S).bind fun I S =>
    (noExc (compL (fun w S => match bindPt p w (wipeE e own) S with
      | some e' => (evOT c e' cd S).bind fun b S => if b = true then (evE c e' el S).bind fun x S => .ok (some x) S else .ok none S
      | none => .fail) I I.ws [] S)).bind fun xs S => mkL f xs S := by
  rw [evE]
  all_goals rfl
theorem e_bm1 (f : Bool) (a b : E) (m : BM) {x y : W} {S2 : St} {k : KT} (h1 : evE c e a S0 = .ok x S0) (h2 : kindW S0 x = some k) (h3 : (mid k m).isSome = true) (h4 : evE c e b S0 = .ok y S1) (h5 : bmM f k m x [y] S1 = .ok w S2) : evE c e (.bm f a m [b]) S0 = .ok w S2 := by
  rw [evE]
  dsimp only
  rw [h1]
  show (match kindW S0 x with
    | some k => if (mid k m).isSome = true then (evEs c e [b] S0).bind fun ws S => bmM f k m x ws S else .fail
    | none => .fail) = _
  rw [h2]
  show (if (mid k m).isSome = true then (evEs c e [b] S0).bind fun ws S => bmM f k m x ws S else .fail) = _
  rw [if_pos h3, evEs]
  dsimp only
  rw [h4]
  show ((evEs c e [] S1).bind fun xs S => (Res.ok (y :: xs) S)).bind _ = _
  rw [evEs]
  exact h5
theorem x_retE {a : E} (h : evE c e a S0 = .ok w S1) : exS c (.ret a) e S0 = .ok (.ret w) S1 := by
  rw [exS, h]
  rfl
theorem x_asg {i : Nat} {a : E} (h : evE c e a S0 = .ok w S1) : exS c (.asg (.v i) a) e S0 = .ok (.nx (e.set i (some w))) S1 := by
  rw [exS, h]
  rfl
theorem x_ift {t : Tst} {a b : List S} {r : Res Fl} (h : evT c e t S0 = .ok true S1) (h2 : exSs c a e S1 = r) : exS c (.ite t a b) e S0 = r := by
  rw [exS, h, ← h2]
  rfl
theorem x_iff {t : Tst} {a b : List S} {r : Res Fl} (h : evT c e t S0 = .ok false S1) (h2 : exSs c b e S1 = r) : exS c (.ite t a b) e S0 = r := by
  rw [exS, h, ← h2]
  rfl
theorem x_skip {t : Tst} {a : List S} (h : evT c e t S0 = .ok false S1) : exS c (.ite t a []) e S0 = .ok (.nx e) S1 := x_iff h (by rw [exSs])
end
end Py

/-! P47: the plain law. -/
namespace K47
open PySem L2 Py
section
variable (k : Nat)
theorem c_whole : (cfgN md.prog (k + 1)).call "is_whole" = fun ws S => runDef (cfgN md.prog k) d_is_whole ws S := rfl
theorem c_row : (cfgN md.prog (k + 1)).call "is_row" = fun ws S => runDef (cfgN md.prog k) d_is_row ws S := rfl
theorem c_prog : (cfgN md.prog (k + 1)).call "is_program" = fun ws S => runDef (cfgN md.prog k) d_is_program ws S := rfl
theorem c_draw : (cfgN md.prog (k + 1)).call "_law_draw" = fun ws S => runDef (cfgN md.prog k) d__law_draw ws S := rfl
theorem g_bare : (cfgN md.prog k).glb "BARE" = some (.tuple [(.str "add"), (.str "less"), (.str "box"), (.str "get"), (.str "set"), (.str "tell"), (.str "sweep")]) := by cases k <;> rfl
end
/-- is a W of this type -/
def tyB (S : Py.St) (w : W) (t : String) : Bool := (isTy S w t).getD false
theorem whole_ok (k : Nat) (S : Py.St) (w : W) (h : ∃ b, isTy S w "int" = some b) (h2 : ∃ b, isTy S w "bool" = some b) : (cfgN md.prog (k + 1)).call "is_whole" [w] S = .ok (.d (.bool (tyB S w "int" && !tyB S w "bool"))) S := by
  obtain ⟨b, h⟩ := h
  obtain ⟨b2, h2⟩ := h2
  rw [c_whole]
  simp only [runDef, d_is_whole, startE, exSs, exS, evE, evEs, Res.bind, isinM, tyNames]
  simp [h, h2, okB, Res.bind, tyB]
  cases b <;> simp [Res.bind]
end K47

namespace K47
open PySem L2 Py
abbrev bagO (a b c : Int) : O := .lst [.d (.int a), .d (.int b), .d (.int c)]
theorem ix0 {S : Py.St} {i : Nat} {a b c : Int} (h : S.o i = some (bagO a b c)) : ixM (.ref i) (.d (.int 0)) S = .ok (.d (.int a)) S := by
  simp only [ixM, seqOf, h]; rfl
theorem ix1 {S : Py.St} {i : Nat} {a b c : Int} (h : S.o i = some (bagO a b c)) : ixM (.ref i) (.d (.int 1)) S = .ok (.d (.int b)) S := by
  simp only [ixM, seqOf, h]; rfl
theorem ix2 {S : Py.St} {i : Nat} {a b c : Int} (h : S.o i = some (bagO a b c)) : ixM (.ref i) (.d (.int 2)) S = .ok (.d (.int c)) S := by
  simp only [ixM, seqOf, h]; rfl
theorem ss0 {S : Py.St} {i : Nat} {a b c : Int} {v : Int} (h : S.o i = some (bagO a b c)) : ssetM (.ref i) (.d (.int 0)) (.d (.int v)) S = some (S.set i (bagO v b c)) := by
  simp only [ssetM, h]; rfl
theorem ss2 {S : Py.St} {i : Nat} {a b c : Int} {v : Int} (h : S.o i = some (bagO a b c)) : ssetM (.ref i) (.d (.int 2)) (.d (.int v)) S = some (S.set i (bagO a b v)) := by
  simp only [ssetM, h]; rfl
theorem draw_ok (k : Nat) (S : Py.St) (i : Nat) (a b c m : Int) (h : S.o i = some (bagO a b c)) (hm : 0 < m) (hl : m.natAbs.log2 < 9000) :
    ∃ r a' b' c', (cfgN md.prog (k + 1)).call "_law_draw" [.ref i, .d (.int m)] S = .ok (.d (.int r)) (S.set i (bagO a' b' c')) ∧ 0 ≤ r ∧ r < m := by
  rw [c_draw]
  have hd : divOk m = true := by simp [divOk, hm, hl]
  by_cases ha : 1 < a
  · refine ⟨a % m, a / m, b, c, ?_, Int.emod_nonneg _ (by omega), Int.emod_lt_of_pos _ hm⟩
    simp [runDef, d__law_draw, startE, exSs, exS, evE, evEs, evT, bind_ok, ix0 h, c_gt, scalD, truB, ha, b_mod _ _ _ hm, b_div _ _ _ hd, bindPt, upS, ss0 h]
  · let one1 := (b + (c + 1) * 7368787) % 2147483647
    let one2 := (one1 ^ 5 + (c + 1) * 15485863) % 2147483629
    have h1 : 0 ≤ one1 := Int.emod_nonneg _ (by decide)
    have h1' : one1 < 2147483647 := Int.emod_lt_of_pos _ (by decide)
    have h2 : 0 ≤ one2 := Int.emod_nonneg _ (by decide)
    have h2' : one2 < 2147483629 := Int.emod_lt_of_pos _ (by decide)
    have n1 : one1.natAbs < 2 ^ 64 := by omega
    have n2 : one2.natAbs < 2 ^ 64 := by omega
    refine ⟨one2 ^ 7 % 2147483587 / 32 % m, a, b, c + 1, ?_, Int.emod_nonneg _ (by omega), Int.emod_lt_of_pos _ hm⟩
    have hs : (S.set i (bagO a b (c + 1))).o i = some (bagO a b (c + 1)) := set_same _ _
    have d32 : divOk 32 = true := by decide +kernel
    have m1 : mulOk (c + 1) 7368787 = true := by simp [mulOk]
    have m2 : mulOk (c + 1) 15485863 = true := by simp [mulOk]
    have p1 : binM true .pow (.d (.int ((b + (c + 1) * 7368787) % 2147483647))) (.d (.int 5)) (S.set i (bagO a b (c + 1))) = Res.ok (.d (.int (one1 ^ 5))) (S.set i (bagO a b (c + 1))) := b_pow _ _ _ ⟨by decide, by decide, n1⟩
    have p2 : binM true .pow (.d (.int ((one1 ^ 5 + (c + 1) * 15485863) % 2147483629))) (.d (.int 7)) (S.set i (bagO a b (c + 1))) = Res.ok (.d (.int (one2 ^ 7))) (S.set i (bagO a b (c + 1))) := b_pow _ _ _ ⟨by decide, by decide, n2⟩
    simp [runDef, d__law_draw, startE, exSs, exS, evE, evEs, evT, bind_ok, ix0 h, ix2 h, c_gt, scalD, truB, ha, b_add, bindPt, upS, ss2 h, ix2 hs, ix1 hs, b_mul _ _ _ m1, b_mul _ _ _ m2, b_mod, b_div _ _ _ d32, p1, p2, hm]
end K47

namespace K47
open PySem L2 Py
theorem set_self {S : Py.St} {i : Nat} {x : O} (h : S.o i = some x) : S.set i x = S := by
  unfold Py.St.set
  cases S with
  | mk n o =>
    congr 1
    funext j
    by_cases hj : j = i
    · subst hj
      simp [← h]
    · simp [hj]
theorem draw_set (k : Nat) (S : Py.St) (i : Nat) (a b c m : Int) (hm : 0 < m) (hl : m.natAbs.log2 < 9000) :
    ∃ r a' b' c', (cfgN md.prog (k + 1)).call "_law_draw" [.ref i, .d (.int m)] (S.set i (bagO a b c)) = .ok (.d (.int r)) (S.set i (bagO a' b' c')) ∧ 0 ≤ r ∧ r < m := by
  obtain ⟨r, a', b', c', e, h1, h2⟩ := draw_ok k (S.set i (bagO a b c)) i a b c m (set_same _ _) hm hl
  exact ⟨r, a', b', c', by rw [e, set_set], h1, h2⟩
theorem c_bag (k : Nat) : (cfgN md.prog (k + 1)).call "_law_bag" = fun ws S => runDef (cfgN md.prog k) d__law_bag ws S := rfl
theorem c_number (k : Nat) : (cfgN md.prog (k + 1)).call "_law_number" = fun ws S => runDef (cfgN md.prog k) d__law_number ws S := rfl
theorem c_lrow (k : Nat) : (cfgN md.prog (k + 1)).call "_law_row" = fun ws S => runDef (cfgN md.prog k) d__law_row ws S := rfl
theorem p18 (f : Bool) (S : Py.St) : binM f .pow (.d (.int 10)) (.d (.int 18)) S = .ok (.d (.int 1000000000000000000)) S := b_pow _ _ _ ⟨by decide, by decide, by decide⟩
theorem p20 (f : Bool) (S : Py.St) : binM f .pow (.d (.int 10)) (.d (.int 20)) S = .ok (.d (.int 100000000000000000000)) S := b_pow _ _ _ ⟨by decide, by decide, by decide⟩
theorem p40 (f : Bool) (S : Py.St) : binM f .pow (.d (.int 10)) (.d (.int 40)) S = .ok (.d (.int 10000000000000000000000000000000000000000)) S := b_pow _ _ _ ⟨by decide, by decide, by decide⟩
theorem bag_ok (k : Nat) (S : Py.St) (z : Int) : ∃ a b, (cfgN md.prog (k + 1)).call "_law_bag" [.d (.int z)] S = .ok (.ref S.n) (S.push (bagO a b 0)) := by
  rw [c_bag]
  refine ⟨if z - 1000000000000000000 > 1 then z - 1000000000000000000 else 1, z % 1000000007, ?_⟩
  simp [runDef, d__law_bag, startE, exSs, exS, evE, evEs, bind_ok, scalD, p18, b_sub, b_mod, biM, wi_eq, mkL, sizeLine]
theorem log_lt {r : Int} (h0 : 0 ≤ r) (h : r < 100000000000000000000) : r.natAbs.log2 < 70 := by
  by_cases hr : r.natAbs = 0
  · rw [hr]
    decide
  · rw [Nat.log2_lt hr]
    have : (2 : Nat) ^ 70 = 1180591620717411303424 := by decide
    omega
theorem l20 : Nat.log2 100000000000000000000 < 9000 := by decide +kernel
theorem l40 : Nat.log2 10000000000000000000000000000000000000000 < 9000 := by decide +kernel
theorem l201 : Nat.log2 201 < 9000 := by decide +kernel
theorem number_ok (k : Nat) (S : Py.St) (i : Nat) (a b c : Int) : ∃ n a' b' c', (cfgN md.prog (k + 2)).call "_law_number" [.ref i] (S.set i (bagO a b c)) = .ok (.d (.int n)) (S.set i (bagO a' b' c')) := by
  rw [c_number]
  obtain ⟨r1, a1, b1, c1, e1, _, _⟩ := draw_set k S i a b c 4 (by decide) (by decide +kernel)
  by_cases h0 : r1 = 0
  · obtain ⟨r2, a2, b2, c2, e2, _, _⟩ := draw_set k S i a1 b1 c1 5 (by decide) (by decide +kernel)
    refine ⟨r2 - 2, a2, b2, c2, ?_⟩
    simp [runDef, d__law_number, startE, exSs, exS, evE, evEs, evT, bind_ok, scalD, e1, e2, bindPt, c_eqI, truB, h0, b_sub]
  by_cases h1 : r1 = 1
  · obtain ⟨r2, a2, b2, c2, e2, _, _⟩ := draw_set k S i a1 b1 c1 201 (by decide) (by decide +kernel)
    refine ⟨r2 - 100, a2, b2, c2, ?_⟩
    simp [runDef, d__law_number, startE, exSs, exS, evE, evEs, evT, bind_ok, scalD, e1, e2, bindPt, c_eqI, truB, h0, h1, b_sub]
  obtain ⟨r2, a2, b2, c2, e2, l2, u2⟩ := draw_set k S i a1 b1 c1 100000000000000000000 (by decide) (by decide +kernel)
  obtain ⟨r3, a3, b3, c3, e3, l3, u3⟩ := draw_set k S i a2 b2 c2 100000000000000000000 (by decide) (by decide +kernel)
  obtain ⟨r4, a4, b4, c4, e4, l4, u4⟩ := draw_set k S i a3 b3 c3 100000000000000000000 (by decide) (by decide +kernel)
  have m1 : mulOk r2 10000000000000000000000000000000000000000 = true := by
    have h1 := log_lt l2 u2
    have h2 : Nat.log2 (10000000000000000000000000000000000000000 : Int).natAbs < 9000 := l40
    unfold mulOk
    simp only [Bool.or_eq_true, decide_eq_true_eq]
    exact .inr (by omega)
  have m2 : mulOk r3 100000000000000000000 = true := by
    have h1 := log_lt l3 u3
    have h2 : Nat.log2 (100000000000000000000 : Int).natAbs < 9000 := l20
    unfold mulOk
    simp only [Bool.or_eq_true, decide_eq_true_eq]
    exact .inr (by omega)
  by_cases h2 : r1 = 2
  · refine ⟨r2 * 10000000000000000000000000000000000000000 + r3 * 100000000000000000000 + r4, a4, b4, c4, ?_⟩
    simp [runDef, d__law_number, startE, exSs, exS, evE, evEs, evT, bind_ok, scalD, e1, e2, e3, e4, bindPt, c_eqI, truB, h0, h1, h2, b_sub, p20, p40, b_mul _ _ _ m1, b_mul _ _ _ m2, b_add]
  · refine ⟨0 - (r2 * 10000000000000000000000000000000000000000 + r3 * 100000000000000000000 + r4), a4, b4, c4, ?_⟩
    simp [runDef, d__law_number, startE, exSs, exS, evE, evEs, evT, bind_ok, scalD, e1, e2, e3, e4, bindPt, c_eqI, truB, h0, h1, h2, b_sub, p20, p40, b_mul _ _ _ m1, b_mul _ _ _ m2, b_add]
end K47

namespace K47
open PySem L2 Py
theorem atA_nat {α : Type} {xs : List α} {i : Int} (h0 : 0 ≤ i) (h : i < xs.length) : atA xs i = xs[i.toNat]? := by
  unfold atA ixN
  simp [h0, h]
def words : List Str := ["put", "pick", "drop", "lift", "go", "back", "keep", "call", "jump", "if", "add", "less", "box", "get", "set", "tell", "sweep"]
def reachL : List Str := ["pick", "drop", "lift", "go", "back"]
def leadL : List Str := ["keep", "call", "jump", "if"]
def bareL : List Str := ["add", "less", "box", "get", "set", "tell", "sweep"]
def wd (i : Int) : Str := words.getD i.toNat ""
theorem wd_at {S : Py.St} {i : Int} (h0 : 0 ≤ i) (h : i < 17) : ixM (.d (.list [.str "put", .str "pick", .str "drop", .str "lift", .str "go", .str "back", .str "keep", .str "call", .str "jump", .str "if", .str "add", .str "less", .str "box", .str "get", .str "set", .str "tell", .str "sweep"])) (.d (.int i)) S = .ok (.d (.str (wd i))) S := by
  have e : i = 0 ∨ i = 1 ∨ i = 2 ∨ i = 3 ∨ i = 4 ∨ i = 5 ∨ i = 6 ∨ i = 7 ∨ i = 8 ∨ i = 9 ∨ i = 10 ∨ i = 11 ∨ i = 12 ∨ i = 13 ∨ i = 14 ∨ i = 15 ∨ i = 16 := by omega
  rcases e with rfl | rfl | rfl | rfl | rfl | rfl | rfl | rfl | rfl | rfl | rfl | rfl | rfl | rfl | rfl | rfl | rfl <;> rfl
theorem wd_reach {i : Int} (h0 : 1 ≤ i) (h : i < 6) : wd i ∈ reachL := by
  have e : i = 1 ∨ i = 2 ∨ i = 3 ∨ i = 4 ∨ i = 5 := by omega
  rcases e with rfl | rfl | rfl | rfl | rfl <;> decide +kernel
theorem wd_lead {i : Int} (h0 : 6 ≤ i) (h : i < 10) : wd i ∈ leadL := by
  have e : i = 6 ∨ i = 7 ∨ i = 8 ∨ i = 9 := by omega
  rcases e with rfl | rfl | rfl | rfl <;> decide +kernel
theorem wd_bare {i : Int} (h0 : 10 ≤ i) (h : i < 17) : wd i ∈ bareL := by
  have e : i = 10 ∨ i = 11 ∨ i = 12 ∨ i = 13 ∨ i = 14 ∨ i = 15 ∨ i = 16 := by omega
  rcases e with rfl | rfl | rfl | rfl | rfl | rfl | rfl <;> decide +kernel
/-- a right row -/
def gr (m : Int) : List PyData → Prop
  | [.str x] => x ∈ bareL
  | [.str x, .int n] => x = "put" ∨ (x ∈ reachL ∧ 0 ≤ n) ∨ (x ∈ leadL ∧ 0 ≤ n ∧ n ≤ m)
  | _ => False
theorem log_small {m : Int} (h0 : 0 ≤ m) (h : m ≤ 100) : (m + 1).natAbs.log2 < 9000 := by
  have hr : (m + 1).natAbs ≠ 0 := by omega
  have : (m + 1).natAbs.log2 < 7 := by
    rw [Nat.log2_lt hr]
    omega
  omega
theorem row_ok (k : Nat) (S : Py.St) (i : Nat) (a b c m : Int) (hm : 0 ≤ m) (hm2 : m ≤ 100) : ∃ ds a' b' c', (cfgN md.prog (k + 3)).call "_law_row" [.ref i, .d (.int m)] (S.set i (bagO a b c)) = .ok (.d (.tuple ds)) (S.set i (bagO a' b' c')) ∧ gr m ds := by
  rw [c_lrow]
  obtain ⟨r1, a1, b1, c1, e1, g1, l1⟩ := draw_set (k + 1) S i a b c 17 (by decide) (by decide +kernel)
  by_cases h0 : r1 = 0
  · obtain ⟨n, a2, b2, c2, e2⟩ := number_ok k S i a1 b1 c1
    refine ⟨[.str "put", .int n], a2, b2, c2, ?_, .inl rfl⟩
    simp [runDef, d__law_row, startE, exSs, exS, evE, evEs, evT, bind_ok, scalD, e1, e2, bindPt, c_eqI, truB, h0, mkL, allD, sizeLine, binM, seqOf, isScr, mkTup]
  by_cases h6 : r1 < 6
  · obtain ⟨n, a2, b2, c2, e2⟩ := number_ok k S i a1 b1 c1
    refine ⟨[.str (wd r1), .int (if n < 0 then -n else n)], a2, b2, c2, ?_, .inr (.inl ⟨wd_reach (by omega) h6, by split <;> omega⟩)⟩
    simp [runDef, d__law_row, startE, exSs, exS, evE, evEs, evT, bind_ok, scalD, e1, e2, bindPt, c_eqI, c_lt, truB, h0, h6, mkL, allD, sizeLine, binM, seqOf, isScr, mkTup, wd_at g1 l1, biM, wi_eq]
  by_cases h10 : r1 < 10
  · obtain ⟨r2, a2, b2, c2, e2, g2, l2⟩ := draw_set (k + 1) S i a1 b1 c1 3 (by decide) (by decide +kernel)
    by_cases hz : r2 = 0
    · refine ⟨[.str (wd r1), .int m], a2, b2, c2, ?_, .inr (.inr ⟨wd_lead (by omega) h10, hm, by omega⟩)⟩
      simp [runDef, d__law_row, startE, exSs, exS, evE, evEs, evT, bind_ok, scalD, e1, e2, bindPt, c_eqI, c_lt, truB, h0, h6, h10, hz, mkL, allD, sizeLine, binM, seqOf, isScr, mkTup, wd_at g1 l1, biM, wi_eq]
    · obtain ⟨r3, a3, b3, c3, e3, g3, l3⟩ := draw_set (k + 1) S i a2 b2 c2 (m + 1) (by omega) (log_small hm hm2)
      refine ⟨[.str (wd r1), .int r3], a3, b3, c3, ?_, .inr (.inr ⟨wd_lead (by omega) h10, g3, by omega⟩)⟩
      simp [runDef, d__law_row, startE, exSs, exS, evE, evEs, evT, bind_ok, scalD, e1, e2, e3, bindPt, c_eqI, c_lt, truB, h0, h6, h10, hz, mkL, allD, sizeLine, binM, seqOf, isScr, mkTup, wd_at g1 l1, biM, wi_eq, okW, intOp]
  · refine ⟨[.str (wd r1)], a1, b1, c1, ?_, wd_bare (by omega) l1⟩
    simp [runDef, d__law_row, startE, exSs, exS, evE, evEs, evT, bind_ok, scalD, e1, bindPt, c_eqI, c_lt, truB, h0, h6, h10, mkL, allD, sizeLine, binM, seqOf, isScr, mkTup, wd_at g1 l1, biM, wi_eq]
end K47

namespace K47
open PySem L2 Py
def isStr : W → Bool
  | .d (.str _) => true
  | _ => false
def isIntW : W → Bool
  | .d (.int _) => true
  | _ => false
def isBoolW : W → Bool
  | .d (.bool _) => true
  | _ => false
/-- every type's question is answered -/
def Typed (S : Py.St) (w : W) : Prop := ∃ b, isTy S w "str" = some b
theorem Typed.str {S : Py.St} {w : W} (h : Typed S w) : isTy S w "str" = some (isStr w) := by
  obtain ⟨b, h⟩ := h
  cases w with
  | d x => cases x <;> first | rfl | cases h
  | ref i =>
    show (match S.o i with
      | some (.lst _) => some ("str" == "list")
      | some (.dK _) | some (.dT _) => some ("str" == "dict")
      | _ => none) = some false
    have h : (match S.o i with
      | some (.lst _) => some ("str" == "list")
      | some (.dK _) | some (.dT _) => some ("str" == "dict")
      | _ => none) = some b := h
    split at h <;> first | rfl | cases h
  | tup ws => rfl
  | scr ns => rfl
theorem Typed.whole {S : Py.St} {w : W} (h : Typed S w) : isTy S w "int" = some (isIntW w || isBoolW w) ∧ isTy S w "bool" = some (isBoolW w) := by
  obtain ⟨b, h⟩ := h
  cases w with
  | d x => cases x <;> first | exact ⟨rfl, rfl⟩ | cases h
  | ref i =>
    have h : (match S.o i with
      | some (.lst _) => some ("str" == "list")
      | some (.dK _) | some (.dT _) => some ("str" == "dict")
      | _ => none) = some b := h
    constructor
    · show (match S.o i with
        | some (.lst _) => some ("int" == "list")
        | some (.dK _) | some (.dT _) => some ("int" == "dict")
        | _ => none) = some false
      split at h <;> first | rfl | cases h
    · show (match S.o i with
        | some (.lst _) => some ("bool" == "list")
        | some (.dK _) | some (.dT _) => some ("bool" == "dict")
        | _ => none) = some false
      split at h <;> first | rfl | cases h
  | tup ws => exact ⟨rfl, rfl⟩
  | scr ns => exact ⟨rfl, rfl⟩
theorem whole_w (k : Nat) {S : Py.St} {w : W} (h : Typed S w) : (cfgN md.prog (k + 1)).call "is_whole" [w] S = .ok (.d (.bool (isIntW w))) S := by
  obtain ⟨h1, h2⟩ := h.whole
  rw [whole_ok k S w ⟨_, h1⟩ ⟨_, h2⟩]
  unfold tyB
  rw [h1, h2]
  cases w with
  | d x => cases x <;> rfl
  | _ => rfl
/-- what a tuple's items make of it -/
def rowL (m : Int) : List W → Bool
  | [.d (.str x)] => decide (x ∈ bareL)
  | [.d (.str x), .d (.int n)] => decide (x = "put") || (decide (x ∈ reachL) && decide (0 ≤ n)) || (decide (x ∈ leadL) && decide (0 ≤ n) && decide (n ≤ m))
  | _ => false
structure TupW (S : Py.St) (w : W) (ws : List W) : Prop where
  ty : ∀ t, isTy S w t = some (t == "tuple")
  len : lenM S w = some (ws.length : Int)
  ix : ∀ i, ixM w (.d (.int i)) S = okW S (atA ws i)
  all : ∀ x ∈ ws, Typed S x
theorem g_reach (k : Nat) : (cfgN md.prog k).glb "REACHING" = some (.tuple [(.str "pick"), (.str "drop"), (.str "lift"), (.str "go"), (.str "back")]) := by cases k <;> rfl
theorem g_lead (k : Nat) : (cfgN md.prog k).glb "LEADING" = some (.tuple [(.str "keep"), (.str "call"), (.str "jump"), (.str "if")]) := by cases k <;> rfl
theorem sb (a x : Str) : (a == x) = decide (x = a) := by
  by_cases h : x = a
  · subst h
    simp
  · simp [h, Ne.symm h, fun z => h (Eq.symm z)]
theorem in_bare (S : Py.St) (x : Str) : cmpM .in_ (.d (.str x)) (.d (.tuple [(.str "add"), (.str "less"), (.str "box"), (.str "get"), (.str "set"), (.str "tell"), (.str "sweep")])) S = .ok (.d (.bool (decide (x ∈ bareL)))) S := by
  simp [cmpM, inM, inSeq, toD, scalD, okB, PyData.eqv, bareL, sb]
theorem in_reach (S : Py.St) (x : Str) : cmpM .in_ (.d (.str x)) (.d (.tuple [(.str "pick"), (.str "drop"), (.str "lift"), (.str "go"), (.str "back")])) S = .ok (.d (.bool (decide (x ∈ reachL)))) S := by
  simp [cmpM, inM, inSeq, toD, scalD, okB, PyData.eqv, reachL, sb]
theorem in_lead (S : Py.St) (x : Str) : cmpM .in_ (.d (.str x)) (.d (.tuple [(.str "keep"), (.str "call"), (.str "jump"), (.str "if")])) S = .ok (.d (.bool (decide (x ∈ leadL)))) S := by
  simp [cmpM, inM, inSeq, toD, scalD, okB, PyData.eqv, leadL, sb]
theorem not_lead {x : Str} (h : x ∈ reachL) : x ∉ leadL := by
  simp [reachL] at h
  rcases h with rfl | rfl | rfl | rfl | rfl <;> decide +kernel
theorem not_put {x : Str} (h : x ∈ reachL) : x ≠ "put" := by
  simp [reachL] at h
  rcases h with rfl | rfl | rfl | rfl | rfl <;> decide +kernel
theorem row_tup (k : Nat) {S : Py.St} {w : W} {ws : List W} (h : TupW S w ws) (m : Int) : (cfgN md.prog (k + 2)).call "is_row" [w, .d (.int m)] S = .ok (.d (.bool (rowL m ws))) S := by
  rw [c_row]
  match ws, h with
  | [], h => simp [runDef, d_is_row, startE, exSs, exS, evE, evEs, evT, bind_ok, isinM, tyNames, h.ty, okB, truB, h.len, biM, okW, wi_eq, scalD, c_lt, rowL]
  | x :: y :: z :: r, h =>
    have e1 : ¬ ((r.length : Int) + 1 + 1 + 1 < 1) := by omega
    have e2 : (2 : Int) < (r.length : Int) + 1 + 1 + 1 := by omega
    simp [runDef, d_is_row, startE, exSs, exS, evE, evEs, evT, bind_ok, isinM, tyNames, h.ty, okB, truB, h.len, biM, okW, wi_eq, scalD, c_lt, c_gt, rowL, e1, e2]
  | [x], h =>
    have hx := (h.all x (by simp)).str
    have a0 : atA [x] 0 = some x := rfl
    cases hs : isStr x with
    | false =>
      have : rowL m [x] = false := by
        unfold rowL
        split
        · rename_i z e
          cases e
          cases hs
        · rename_i z n e
          cases e
        · rfl
      rw [hs] at hx
      simp [runDef, d_is_row, startE, exSs, exS, evE, evEs, evT, bind_ok, isinM, tyNames, h.ty, okB, truB, h.len, biM, okW, wi_eq, scalD, c_lt, c_gt, this, h.ix, a0, hx]
    | true =>
      obtain ⟨z, rfl⟩ : ∃ z, x = .d (.str z) := by
        cases x with
        | d y => cases y <;> first | exact ⟨_, rfl⟩ | cases hs
        | _ => cases hs
      rw [hs] at hx
      simp [runDef, d_is_row, startE, exSs, exS, evE, evEs, evT, bind_ok, isinM, tyNames, h.ty, okB, truB, h.len, biM, okW, wi_eq, scalD, c_lt, c_gt, c_eqI, rowL, h.ix, a0, hx, g_bare, in_bare]
  | [x, y], h =>
    have hx := (h.all x (by simp)).str
    have hy := whole_w k (h.all y (by simp))
    have a0 : atA [x, y] 0 = some x := rfl
    have a1 : atA [x, y] 1 = some y := rfl
    cases hs : isStr x with
    | false =>
      have : rowL m [x, y] = false := by
        unfold rowL
        split
        · rename_i z e
          cases e
        · rename_i z n e
          cases e
          cases hs
        · rfl
      rw [hs] at hx
      simp [runDef, d_is_row, startE, exSs, exS, evE, evEs, evT, bind_ok, isinM, tyNames, h.ty, okB, truB, h.len, biM, okW, wi_eq, scalD, c_lt, c_gt, this, h.ix, a0, hx]
    | true =>
      obtain ⟨z, rfl⟩ : ∃ z, x = .d (.str z) := by
        cases x with
        | d y => cases y <;> first | exact ⟨_, rfl⟩ | cases hs
        | _ => cases hs
      rw [hs] at hx
      cases hi : isIntW y with
      | false =>
        have : rowL m [.d (.str z), y] = false := by
          unfold rowL
          split
          · rename_i z e
            cases e
          · rename_i z n e
            cases e
            cases hi
          · rfl
        rw [hi] at hy
        simp [runDef, d_is_row, startE, exSs, exS, evE, evEs, evT, bind_ok, isinM, tyNames, h.ty, okB, truB, h.len, biM, okW, wi_eq, scalD, c_lt, c_gt, c_eqI, this, h.ix, a0, a1, hx, hy]
      | true =>
        obtain ⟨n, rfl⟩ : ∃ n, y = .d (.int n) := by
          cases y with
          | d y => cases y <;> first | exact ⟨_, rfl⟩ | cases hi
          | _ => cases hi
        rw [hi] at hy
        by_cases hp : z = "put"
        · subst hp
          simp [runDef, d_is_row, startE, exSs, exS, evE, evEs, evT, bind_ok, isinM, tyNames, h.ty, okB, truB, h.len, biM, okW, wi_eq, scalD, c_lt, c_gt, c_eqI, c_eqS, rowL, h.ix, a0, a1, hx, hy]
        · by_cases hr : z ∈ reachL
          · have hl := not_lead hr
            simp [runDef, d_is_row, startE, exSs, exS, evE, evEs, evT, bind_ok, isinM, tyNames, h.ty, okB, truB, h.len, biM, okW, wi_eq, scalD, c_lt, c_gt, c_ge, c_eqI, c_eqS, rowL, h.ix, a0, a1, hx, hy, hp, g_reach, in_reach, hr, hl]
          · by_cases hl : z ∈ leadL
            · by_cases h0 : 0 ≤ n
              · simp [runDef, d_is_row, startE, exSs, exS, evE, evEs, evT, bind_ok, isinM, tyNames, h.ty, okB, truB, h.len, biM, okW, wi_eq, scalD, c_lt, c_gt, c_ge, c_le, c_eqI, c_eqS, rowL, h.ix, a0, a1, hx, hy, hp, g_reach, in_reach, g_lead, in_lead, hr, hl, h0]
              · simp [runDef, d_is_row, startE, exSs, exS, evE, evEs, evT, bind_ok, isinM, tyNames, h.ty, okB, truB, h.len, biM, okW, wi_eq, scalD, c_lt, c_gt, c_ge, c_le, c_eqI, c_eqS, rowL, h.ix, a0, a1, hx, hy, hp, g_reach, in_reach, g_lead, in_lead, hr, hl, h0]
            · simp [runDef, d_is_row, startE, exSs, exS, evE, evEs, evT, bind_ok, isinM, tyNames, h.ty, okB, truB, h.len, biM, okW, wi_eq, scalD, c_lt, c_gt, c_ge, c_le, c_eqI, c_eqS, rowL, h.ix, a0, a1, hx, hy, hp, g_reach, in_reach, g_lead, in_lead, hr, hl]
theorem row_not (k : Nat) {S : Py.St} {w : W} (h : isTy S w "tuple" = some false) (m : Int) : (cfgN md.prog (k + 2)).call "is_row" [w, .d (.int m)] S = .ok (.d (.bool false)) S := by
  rw [c_row]
  simp [runDef, d_is_row, startE, exSs, exS, evE, evEs, evT, bind_ok, isinM, tyNames, h, okB, truB, scalD]
end K47

namespace K47
open PySem L2 Py
theorem guard_ok {α : Type} {I : Itm} {S : Py.St} {r : Res α} (h : I.ok S) : guardI I S r = r := if_pos h
/-- a walk whose turns leave the store, and go on while p holds -/
theorem for_all {F : W → Ev → Py.M Fl} {I : Itm} {S : Py.St} {p : W → Bool} {Ok : Ev → Prop} (hI : I.ok S) : ∀ (ws : List W) (e : Ev), Ok e → (∀ w ∈ ws, ∀ e, Ok e → (p w = true → ∃ e', F w e S = .ok (.nx e') S ∧ Ok e') ∧ (p w = false → F w e S = .ok (.ret (.d (.bool false))) S)) →
    (ws.all p = true → ∃ e', forL F I ws e S = .ok (.nx e') S ∧ Ok e') ∧ (ws.all p = false → forL F I ws e S = .ok (.ret (.d (.bool false))) S)
  | [], e, he, _ => by
    refine ⟨fun _ => ⟨e, guard_ok hI, he⟩, fun h => ?_⟩
    cases h
  | w :: r, e, he, h => by
    obtain ⟨h1, h2⟩ := h w (by simp) e he
    have go : forL F I (w :: r) e S = (F w e S).bind fun fl S => match fl with
      | .nx e => forL F I r e S
      | .ct e => forL F I r e S
      | .bk e => .ok (.nx e) S
      | .ret v => .ok (.ret v) S := guard_ok hI
    cases hp : p w with
    | false =>
      refine ⟨fun z => (by rw [List.all_cons, hp] at z; cases z), fun _ => ?_⟩
      rw [go, h2 hp]
      rfl
    | true =>
      obtain ⟨e1, f1, k1⟩ := h1 hp
      obtain ⟨i1, i2⟩ := for_all (p := p) hI r e1 k1 fun w hw => h w (List.mem_cons_of_mem _ hw)
      rw [List.all_cons, hp, Bool.true_and, go, f1]
      exact ⟨i1, i2⟩
def tupItems : W → Option (List W)
  | .d (.tuple ds) => some (ds.map .d)
  | .tup ws => some ws
  | _ => none
def rowW (m : Int) (w : W) : Bool := match tupItems w with
  | some ws => rowL m ws
  | none => false
structure TupX (S : Py.St) (w : W) (ws : List W) : Prop extends TupW S w ws where
  e0 : eqM S w (.d (.tuple [])) = some ws.isEmpty
  it : tupItems w = some ws
def Item (S : Py.St) (w : W) : Prop := (isTy S w "tuple" = some false ∧ tupItems w = none) ∨ ∃ ws, TupX S w ws
structure ListW (S : Py.St) (w : W) (ws : List W) : Prop where
  ty : ∀ t, isTy S w t = some (t == "list")
  len : lenM S w = some (ws.length : Int)
  seq : seqOf S w = some (true, ws)
  all : ∀ x ∈ ws, Item S x
theorem it_list {S : Py.St} {w : W} {ws : List W} (h : ListW S w ws) : ∃ kp, itS1 w S = .ok ⟨ws, kp⟩ S ∧ (Itm.mk ws kp).ok S := by
  unfold itS1
  rw [h.seq]
  cases w with
  | ref i =>
    refine ⟨some (i, ws), rfl, ?_⟩
    have e : (match S.o i with
      | some (.lst ws) => some (true, ws)
      | _ => none) = some (true, ws) := h.seq
    split at e
    · rename_i ws' e'
      cases e
      exact e'
    · cases e
  | _ => exact ⟨none, rfl, True.intro⟩
theorem prog_ok (k : Nat) {S : Py.St} {w : W} {ws : List W} (h : ListW S w ws) : (cfgN md.prog (k + 3)).call "is_program" [w] S = .ok (.d (.bool (ws.all (rowW ws.length)))) S := by
  rw [c_prog]
  obtain ⟨kp, e1, e2⟩ := it_list h
  obtain ⟨q1, q2⟩ := for_all (F := fun w e S => match bindPt (.v 1) w e S with
    | some e' => exSs (cfgN md.prog (k + 2)) [.ite (.not (.e (.call "is_row" [(.v 1), (.bi true .len [(.v 0)])] []))) [.ret (.k (.bool false))] []] e' S
    | none => .fail) (p := rowW ws.length) (Ok := fun e => e.length = 2 ∧ e[0]? = some (some w)) e2 ws [some w, none] ⟨rfl, rfl⟩ (by
      intro x hx e he
      obtain ⟨l, e0⟩ := he
      match e, l with
      | [a, b], _ =>
      simp at e0
      subst e0
      have hr : (cfgN md.prog (k + 2)).call "is_row" [x, .d (.int (ws.length : Int))] S = .ok (.d (.bool (rowW ws.length x))) S := by
        rcases h.all x hx with ⟨t, t2⟩ | ⟨us, t⟩
        · rw [row_not k t]
          unfold rowW
          rw [t2]
        · rw [row_tup k t.toTupW]
          unfold rowW
          rw [t.it]
      refine ⟨fun hp => ⟨[some w, some x], ?_, rfl, rfl⟩, fun hp => ?_⟩
      · rw [hp] at hr
        simp [bindPt, exSs, exS, evE, evEs, evT, bind_ok, biM, h.len, okW, wi_eq, hr, truB]
      · rw [hp] at hr
        simp [bindPt, exSs, exS, evE, evEs, evT, bind_ok, biM, h.len, okW, wi_eq, hr, truB, scalD])
  have s1 : exS (cfgN md.prog (k + 2)) (.ite (.not (.e (.isin (.v 0) ["list"]))) [.ret (.k (.bool false))] []) [some w, none] S = .ok (.nx [some w, none]) S := by
    simp [exSs, exS, evE, evEs, evT, bind_ok, isinM, tyNames, h.ty, okB, truB]
  have s2 : ∀ b, exS (cfgN md.prog (k + 2)) (.for_ (.v 1) .seq [(.v 0)] b) [some w, none] S = forL (fun w e S => match bindPt (.v 1) w e S with
    | some e' => exSs (cfgN md.prog (k + 2)) b e' S
    | none => .fail) ⟨ws, kp⟩ ws [some w, none] S := fun b => by
    rw [x_for]
    simp [evEs, evE, bind_ok, itM, itSeq, e1]
    all_goals rfl
  cases ha : ws.all (rowW ws.length) with
  | true =>
    obtain ⟨e', f, _⟩ := q1 ha
    exact run_ret rfl ((x_nx s1).trans ((x_nx ((s2 _).trans f)).trans (x_ret (by simp [exS, evE, scalD, bind_ok]))))
  | false =>
    exact run_ret rfl ((x_nx s1).trans (x_ret ((s2 _).trans (q2 ha))))
theorem prog_not (k : Nat) {S : Py.St} {w : W} (h : isTy S w "list" = some false) : (cfgN md.prog (k + 1)).call "is_program" [w] S = .ok (.d (.bool false)) S := by
  rw [c_prog]
  simp [runDef, d_is_program, startE, exSs, exS, evE, evEs, evT, bind_ok, isinM, tyNames, h, okB, truB, scalD]
end K47

namespace K47
open PySem L2 Py
theorem c_right (k : Nat) : (cfgN md.prog (k + 1)).call "_law_right" = fun ws S => runDef (cfgN md.prog k) d__law_right ws S := rfl
def rightBody : List Py.S := match d__law_right.body with
  | [_, .for_ _ _ _ b, _] => b
  | _ => []
theorem right_body : d__law_right.body = [.ite (.not (.e (.isin (.v 0) ["list"]))) [.ret (.k (.bool false))] [], .for_ (.v 1) .seq [(.v 0)] rightBody, .ret (.k (.bool true))] := rfl
theorem nin_bare (S : Py.St) (x : Str) : cmpM .nin (.d (.str x)) (.d (.list [(.str "add"), (.str "less"), (.str "box"), (.str "get"), (.str "set"), (.str "tell"), (.str "sweep")])) S = .ok (.d (.bool (!decide (x ∈ bareL)))) S := by
  simp [cmpM, inM, inSeq, toD, scalD, okB, PyData.eqv, bareL, sb]
theorem nin_reach (S : Py.St) (x : Str) : cmpM .nin (.d (.str x)) (.d (.list [(.str "pick"), (.str "drop"), (.str "lift"), (.str "go"), (.str "back")])) S = .ok (.d (.bool (!decide (x ∈ reachL)))) S := by
  simp [cmpM, inM, inSeq, toD, scalD, okB, PyData.eqv, reachL, sb]
theorem inl_lead (S : Py.St) (x : Str) : cmpM .in_ (.d (.str x)) (.d (.list [(.str "keep"), (.str "call"), (.str "jump"), (.str "if")])) S = .ok (.d (.bool (decide (x ∈ leadL)))) S := by
  simp [cmpM, inM, inSeq, toD, scalD, okB, PyData.eqv, leadL, sb]
theorem eq0 {S : Py.St} {w : W} {ws : List W} (h : TupX S w ws) : cmpM .eq w (.d (.tuple [])) S = .ok (.d (.bool ws.isEmpty)) S := by
  simp [cmpM, h.e0, okB]
theorem lead_np {x : Str} (h : x ∈ leadL) : x ≠ "put" := by
  simp [leadL] at h
  rcases h with rfl | rfl | rfl | rfl <;> decide +kernel
/-- one turn of the law's own reading -/
theorem turn_tup (k : Nat) {S : Py.St} {t w : W} {us ws : List W} (ht : ListW S t us) (h : TupX S w ws) (l0 : Option W) :
    (rowL us.length ws = true → ∃ e', exSs (cfgN md.prog k) rightBody [some t, some w, l0] S = .ok (.nx e') S ∧ e'.length = 3 ∧ e'[0]? = some (some t)) ∧
    (rowL us.length ws = false → exSs (cfgN md.prog k) rightBody [some t, some w, l0] S = .ok (.ret (.d (.bool false))) S) := by
  have hq := eq0 h
  match ws, h, hq with
  | [], h, hq =>
    refine ⟨fun z => (by cases z), fun _ => ?_⟩
    simp [rightBody, d__law_right, exSs, exS, evE, evEs, evT, bind_ok, isinM, tyNames, h.ty, okB, truB, hq, scalD, mkTup, allD, sizeLine]
  | x :: y :: z :: r, h, hq =>
    have er : rowL us.length (x :: y :: z :: r) = false := by
      unfold rowL
      split
      · rename_i e
        cases e
      · rename_i e
        cases e
      · rfl
    rw [er]
    refine ⟨fun z => (by cases z), fun _ => ?_⟩
    have hx := (h.all x (by simp)).str
    have a0 : atA (x :: y :: z :: r) 0 = some x := by rw [atA_nat (by decide) (by simp; omega)]; rfl
    have n1 : ¬ ((r.length : Int) + 1 + 1 + 1 = 1) := by omega
    have n2 : (2 : Int) < (r.length : Int) + 1 + 1 + 1 := by omega
    cases hs : isStr x with
    | false =>
      rw [hs] at hx
      simp [rightBody, d__law_right, exSs, exS, evE, evEs, evT, bind_ok, isinM, tyNames, h.ty, okB, truB, hq, scalD, mkTup, allD, sizeLine, h.ix, a0, okW, hx]
    | true =>
      rw [hs] at hx
      simp [rightBody, d__law_right, exSs, exS, evE, evEs, evT, bind_ok, isinM, tyNames, h.ty, okB, truB, hq, scalD, mkTup, allD, sizeLine, h.ix, a0, okW, hx, biM, h.len, wi_eq, c_eqI, n1, c_gt, n2]
  | [x], h, hq =>
    have hx := (h.all x (by simp)).str
    have a0 : atA [x] 0 = some x := rfl
    cases hs : isStr x with
    | false =>
      have e : rowL us.length [x] = false := by
        unfold rowL
        split
        · rename_i z e
          cases e
          cases hs
        · rename_i z n e
          cases e
        · rfl
      rw [hs] at hx
      rw [e]
      refine ⟨fun z => (by cases z), fun _ => ?_⟩
      simp [rightBody, d__law_right, exSs, exS, evE, evEs, evT, bind_ok, isinM, tyNames, h.ty, okB, truB, hq, scalD, mkTup, allD, sizeLine, h.ix, a0, okW, hx]
    | true =>
      obtain ⟨z, rfl⟩ : ∃ z, x = .d (.str z) := by
        cases x with
        | d y => cases y <;> first | exact ⟨_, rfl⟩ | cases hs
        | _ => cases hs
      rw [hs] at hx
      by_cases hb : z ∈ bareL
      · refine ⟨fun _ => ⟨[some t, some w, l0], ?_, rfl, rfl⟩, fun z => (by simp [rowL, hb] at z)⟩
        simp [rightBody, d__law_right, exSs, exS, evE, evEs, evT, bind_ok, isinM, tyNames, h.ty, okB, truB, hq, scalD, mkTup, allD, sizeLine, h.ix, a0, okW, hx, biM, h.len, wi_eq, c_eqI, c_gt, mkL, nin_bare, hb]
      · refine ⟨fun z => (by simp [rowL, hb] at z), fun _ => ?_⟩
        simp [rightBody, d__law_right, exSs, exS, evE, evEs, evT, bind_ok, isinM, tyNames, h.ty, okB, truB, hq, scalD, mkTup, allD, sizeLine, h.ix, a0, okW, hx, biM, h.len, wi_eq, c_eqI, c_gt, mkL, nin_bare, hb]
  | [x, y], h, hq =>
    have hx := (h.all x (by simp)).str
    obtain ⟨hy1, hy2⟩ := (h.all y (by simp)).whole
    have a0 : atA [x, y] 0 = some x := rfl
    have a1 : atA [x, y] 1 = some y := rfl
    cases hs : isStr x with
    | false =>
      have e : rowL us.length [x, y] = false := by
        unfold rowL
        split
        · rename_i z e
          cases e
        · rename_i z n e
          cases e
          cases hs
        · rfl
      rw [hs] at hx
      rw [e]
      refine ⟨fun z => (by cases z), fun _ => ?_⟩
      simp [rightBody, d__law_right, exSs, exS, evE, evEs, evT, bind_ok, isinM, tyNames, h.ty, okB, truB, hq, scalD, mkTup, allD, sizeLine, h.ix, a0, okW, hx]
    | true =>
      obtain ⟨z, rfl⟩ : ∃ z, x = .d (.str z) := by
        cases x with
        | d y => cases y <;> first | exact ⟨_, rfl⟩ | cases hs
        | _ => cases hs
      rw [hs] at hx
      cases hi : isIntW y with
      | false =>
        have e : rowL us.length [.d (.str z), y] = false := by
          unfold rowL
          split
          · rename_i z e
            cases e
          · rename_i z n e
            cases e
            cases hi
          · rfl
        rw [e]
        refine ⟨fun z => (by cases z), fun _ => ?_⟩
        rw [hi] at hy1
        cases hbw : isBoolW y with
        | true =>
          rw [hbw] at hy1 hy2
          simp [rightBody, d__law_right, exSs, exS, evE, evEs, evT, bind_ok, isinM, tyNames, h.ty, okB, truB, hq, scalD, mkTup, allD, sizeLine, h.ix, a0, a1, okW, hx, biM, h.len, wi_eq, c_eqI, c_gt, mkL, hy2]
        | false =>
          rw [hbw] at hy1 hy2
          simp [rightBody, d__law_right, exSs, exS, evE, evEs, evT, bind_ok, isinM, tyNames, h.ty, okB, truB, hq, scalD, mkTup, allD, sizeLine, h.ix, a0, a1, okW, hx, biM, h.len, wi_eq, c_eqI, c_gt, mkL, hy2, hy1]
      | true =>
        obtain ⟨n, rfl⟩ : ∃ n, y = .d (.int n) := by
          cases y with
          | d y => cases y <;> first | exact ⟨_, rfl⟩ | cases hi
          | _ => cases hi
        have hy1 : isTy S (.d (.int n)) "int" = some true := rfl
        have hy2 : isTy S (.d (.int n)) "bool" = some false := rfl
        by_cases hp : z = "put"
        · subst hp
          refine ⟨fun _ => ⟨[some t, some w, l0], ?_, rfl, rfl⟩, fun z => (by simp [rowL] at z)⟩
          simp [rightBody, d__law_right, exSs, exS, evE, evEs, evT, bind_ok, isinM, tyNames, h.ty, okB, truB, hq, scalD, mkTup, allD, sizeLine, h.ix, a0, a1, okW, hx, biM, h.len, wi_eq, c_eqI, c_gt, c_neS, mkL, hy2, hy1]
        · have goal : ∀ (b : Bool) (e' : Ev), exSs (cfgN md.prog k) rightBody [some t, some w, l0] S = (if b then .ok (.nx e') S else .ok (.ret (.d (.bool false))) S) → e'.length = 3 ∧ e'[0]? = some (some t) → rowL us.length [.d (.str z), .d (.int n)] = b →
              (rowL us.length [.d (.str z), .d (.int n)] = true → ∃ e', exSs (cfgN md.prog k) rightBody [some t, some w, l0] S = .ok (.nx e') S ∧ e'.length = 3 ∧ e'[0]? = some (some t)) ∧
              (rowL us.length [.d (.str z), .d (.int n)] = false → exSs (cfgN md.prog k) rightBody [some t, some w, l0] S = .ok (.ret (.d (.bool false))) S) := fun b e' h1 h2 h3 => by
            rw [h3]
            cases b with
            | true => exact ⟨fun _ => ⟨e', by rw [h1]; rfl, h2.1, h2.2⟩, fun z => (by cases z)⟩
            | false => exact ⟨fun z => (by cases z), fun _ => by rw [h1]; rfl⟩
          refine goal (rowL us.length [.d (.str z), .d (.int n)]) [some t, some w, some (.d (.bool (decide (z ∈ leadL))))] ?_ ⟨rfl, rfl⟩ rfl
          by_cases hl : z ∈ leadL
          · have hr : z ∉ reachL := fun q => not_lead q hl
            by_cases h0 : n < 0
            · have : ¬ 0 ≤ n := by omega
              simp [rightBody, d__law_right, exSs, exS, evE, evEs, evT, bind_ok, isinM, tyNames, h.ty, okB, truB, hq, scalD, mkTup, allD, sizeLine, h.ix, a0, a1, okW, hx, biM, h.len, wi_eq, c_eqI, c_gt, c_lt, c_neS, mkL, hy2, hy1, hp, bindPt, inl_lead, hl, h0, rowL, hr, this]
            · have h0' : 0 ≤ n := by omega
              by_cases hm : (us.length : Int) < n
              · have : ¬ n ≤ (us.length : Int) := by omega
                simp [rightBody, d__law_right, exSs, exS, evE, evEs, evT, bind_ok, isinM, tyNames, h.ty, okB, truB, hq, scalD, mkTup, allD, sizeLine, h.ix, a0, a1, okW, hx, biM, h.len, wi_eq, c_eqI, c_gt, c_lt, c_neS, mkL, hy2, hy1, hp, bindPt, inl_lead, hl, h0, rowL, hr, this, ht.len, hm, h0']
              · have : n ≤ (us.length : Int) := by omega
                simp [rightBody, d__law_right, exSs, exS, evE, evEs, evT, bind_ok, isinM, tyNames, h.ty, okB, truB, hq, scalD, mkTup, allD, sizeLine, h.ix, a0, a1, okW, hx, biM, h.len, wi_eq, c_eqI, c_gt, c_lt, c_neS, mkL, hy2, hy1, hp, bindPt, inl_lead, hl, h0, rowL, hr, this, ht.len, hm, h0']
          · by_cases h0 : n < 0
            · have : ¬ 0 ≤ n := by omega
              simp [rightBody, d__law_right, exSs, exS, evE, evEs, evT, bind_ok, isinM, tyNames, h.ty, okB, truB, hq, scalD, mkTup, allD, sizeLine, h.ix, a0, a1, okW, hx, biM, h.len, wi_eq, c_eqI, c_gt, c_lt, c_neS, mkL, hy2, hy1, hp, bindPt, inl_lead, hl, h0, rowL, this]
            · have h0' : 0 ≤ n := by omega
              by_cases hr : z ∈ reachL
              · simp [rightBody, d__law_right, exSs, exS, evE, evEs, evT, bind_ok, isinM, tyNames, h.ty, okB, truB, hq, scalD, mkTup, allD, sizeLine, h.ix, a0, a1, okW, hx, biM, h.len, wi_eq, c_eqI, c_gt, c_lt, c_neS, mkL, hy2, hy1, hp, bindPt, inl_lead, hl, h0, rowL, hr, h0', nin_reach]
              · simp [rightBody, d__law_right, exSs, exS, evE, evEs, evT, bind_ok, isinM, tyNames, h.ty, okB, truB, hq, scalD, mkTup, allD, sizeLine, h.ix, a0, a1, okW, hx, biM, h.len, wi_eq, c_eqI, c_gt, c_lt, c_neS, mkL, hy2, hy1, hp, bindPt, inl_lead, hl, h0, rowL, hr, h0', nin_reach]
end K47

namespace K47
open PySem L2 Py
theorem turn_not (k : Nat) {S : Py.St} {t w : W} (h : isTy S w "tuple" = some false) (l0 : Option W) : exSs (cfgN md.prog k) rightBody [some t, some w, l0] S = .ok (.ret (.d (.bool false))) S := by
  simp [rightBody, d__law_right, exSs, exS, evE, evEs, evT, bind_ok, isinM, tyNames, h, okB, truB, scalD]
theorem right_ok (k : Nat) {S : Py.St} {w : W} {ws : List W} (h : ListW S w ws) : (cfgN md.prog (k + 1)).call "_law_right" [w] S = .ok (.d (.bool (ws.all (rowW ws.length)))) S := by
  rw [c_right]
  obtain ⟨kp, e1, e2⟩ := it_list h
  obtain ⟨q1, q2⟩ := for_all (F := fun w e S => match bindPt (.v 1) w e S with
    | some e' => exSs (cfgN md.prog k) rightBody e' S
    | none => .fail) (p := rowW ws.length) (Ok := fun e => e.length = 3 ∧ e[0]? = some (some w)) e2 ws [some w, none, none] ⟨rfl, rfl⟩ (by
      intro x hx e he
      obtain ⟨l, e0⟩ := he
      match e, l with
      | [a, b, c], _ =>
      simp at e0
      subst e0
      show (rowW ws.length x = true → ∃ e', exSs (cfgN md.prog k) rightBody [some w, some x, c] S = .ok (.nx e') S ∧ _) ∧ (rowW ws.length x = false → exSs (cfgN md.prog k) rightBody [some w, some x, c] S = _)
      rcases h.all x hx with ⟨t, t2⟩ | ⟨us, t⟩
      · have e : rowW ws.length x = false := by
          unfold rowW
          rw [t2]
        rw [e]
        exact ⟨fun z => (by cases z), fun _ => turn_not k t c⟩
      · have e : rowW ws.length x = rowL ws.length us := by
          unfold rowW
          rw [t.it]
        rw [e]
        exact turn_tup k h t c)
  have s1 : exS (cfgN md.prog k) (.ite (.not (.e (.isin (.v 0) ["list"]))) [.ret (.k (.bool false))] []) [some w, none, none] S = .ok (.nx [some w, none, none]) S := by
    simp [exSs, exS, evE, evEs, evT, bind_ok, isinM, tyNames, h.ty, okB, truB]
  have s2 : ∀ b, exS (cfgN md.prog k) (.for_ (.v 1) .seq [(.v 0)] b) [some w, none, none] S = forL (fun w e S => match bindPt (.v 1) w e S with
    | some e' => exSs (cfgN md.prog k) b e' S
    | none => .fail) ⟨ws, kp⟩ ws [some w, none, none] S := fun b => by
    rw [x_for]
    simp [evEs, evE, bind_ok, itM, itSeq, e1]
    all_goals rfl
  cases ha : ws.all (rowW ws.length) with
  | true =>
    obtain ⟨e', f, _⟩ := q1 ha
    exact run_ret rfl (by rw [right_body]; exact (x_nx s1).trans ((x_nx ((s2 _).trans f)).trans (x_ret (by simp [exS, evE, scalD, bind_ok]))))
  | false =>
    exact run_ret rfl (by rw [right_body]; exact (x_nx s1).trans (x_ret ((s2 _).trans (q2 ha))))
theorem right_not (k : Nat) {S : Py.St} {w : W} (h : isTy S w "list" = some false) : (cfgN md.prog (k + 1)).call "_law_right" [w] S = .ok (.d (.bool false)) S := by
  rw [c_right]
  simp [runDef, d__law_right, startE, exSs, exS, evE, evEs, evT, bind_ok, isinM, tyNames, h, okB, truB, scalD]
end K47

namespace K47
open PySem L2 Py
theorem c_word (k : Nat) : (cfgN md.prog (k + 1)).call "_law_other_word" = fun ws S => runDef (cfgN md.prog k) d__law_other_word ws S := rfl
def sgn (x : Str) : Prop := ∀ c ∈ x.cps.toList, c < 0x110000
theorem sgn_ok {x : Str} (h : sgn x) : PyData.strOk x = true := by
  unfold PyData.strOk
  rw [← Array.all_toList, List.all_eq_true]
  intro c hc
  simpa using h c hc
theorem sgn_of {x : Str} (h : PyData.strOk x = true) : sgn x := by
  unfold PyData.strOk at h
  rw [← Array.all_toList, List.all_eq_true] at h
  intro c hc
  simpa using h c hc
theorem sgn_app {x y : Str} (hx : sgn x) (hy : sgn y) : sgn (x ++ y) := by
  intro c hc
  have e : (x ++ y).cps.toList = x.cps.toList ++ y.cps.toList := by
    show (x.cps ++ y.cps).toList = _
    simp
  rw [e] at hc
  rcases List.mem_append.mp hc with h | h
  · exact hx c h
  · exact hy c h
theorem sgn_cut {x : Str} (hx : sgn x) (lo hi : Option Int) : sgn (cutS x lo hi) := by
  intro c hc
  unfold cutS at hc
  exact hx c (List.mem_of_mem_drop (List.mem_of_mem_take (by simpa using hc)))
theorem words_sgn {x : Str} (h : x ∈ words) : sgn x ∧ x.length ≤ 10 ∧ sgn (Txt.upper (cutS x none (some 1))) ∧ (Txt.upper (cutS x none (some 1))).length ≤ 10 := by
  have key : words.all (fun x => PyData.strOk x && decide (x.length ≤ 10) && PyData.strOk (Txt.upper (cutS x none (some 1))) && decide ((Txt.upper (cutS x none (some 1))).length ≤ 10)) = true := by decide +kernel
  have z := List.all_eq_true.mp key x h
  simp only [Bool.and_eq_true, decide_eq_true_eq] at z
  exact ⟨sgn_of z.1.1.1, z.1.1.2, sgn_of z.1.2, z.2⟩
def abc : Str := "abcdefghijklmnopqrstuvwxyz"
theorem abc_at {S : Py.St} {i : Int} (h0 : 0 ≤ i) (h : i < 26) : ∃ c, c < 0x110000 ∧ ixM (.d (.str "abcdefghijklmnopqrstuvwxyz")) (.d (.int i)) S = .ok (.d (.str ⟨#[c]⟩)) S := by
  have l1 : abc.cps.toList.length = 26 := by decide +kernel
  have l2 : ∀ c ∈ abc.cps.toList, c < 0x110000 := sgn_of (by decide +kernel)
  have l3 : abc.length ≤ sizeLine := by decide +kernel
  have hi : i.toNat < abc.cps.toList.length := by omega
  refine ⟨abc.cps.toList[i.toNat], l2 _ (List.getElem_mem hi), ?_⟩
  show (if abc.length ≤ sizeLine then okW S ((atA abc.cps.toList i).map fun c => .d (.str ⟨#[c]⟩)) else .fail) = _
  rw [if_pos l3, atA_nat h0 (by omega), List.getElem?_eq_getElem hi]
  rfl
end K47

namespace K47
open PySem L2 Py
theorem compL_inv {F : W → Py.M (Option W)} {I : Itm} {V : Py.St → Prop} {P : W → Prop} (hI : I.keep = none) : ∀ (ws acc : List W) (S : Py.St), acc.length + ws.length ≤ sizeLine → V S → (∀ w ∈ ws, ∀ S, V S → ∃ x S', F w S = .ok (some x) S' ∧ V S' ∧ P x) →
    ∃ xs S', compL F I ws acc S = .ok (acc ++ xs) S' ∧ V S' ∧ xs.length = ws.length ∧ ∀ x ∈ xs, P x
  | [], acc, S, _, hv, _ => by
    have ok : I.ok S := by
      unfold Itm.ok
      rw [hI]
      exact True.intro
    refine ⟨[], S, ?_, hv, rfl, by simp⟩
    rw [List.append_nil]
    exact guard_ok ok
  | w :: r, acc, S, hl, hv, h => by
    have ok : I.ok S := by
      unfold Itm.ok
      rw [hI]
      exact True.intro
    obtain ⟨x, S1, e1, v1, p1⟩ := h w (by simp) S hv
    obtain ⟨xs, S2, e2, v2, l2, p2⟩ := compL_inv (P := P) hI r (acc ++ [x]) S1 (by simp at hl ⊢; omega) v1 fun w hw => h w (List.mem_cons_of_mem _ hw)
    refine ⟨x :: xs, S2, ?_, v2, by simp [l2], fun y hy => ?_⟩
    · have go : compL F I (w :: r) acc S = (if acc.length < sizeLine then (F w S).bind fun o S => match o with
        | some x => compL F I r (acc ++ [x]) S
        | none => compL F I r acc S
        else .fail) := guard_ok ok
      rw [go, if_pos (by simp at hl; omega), e1]
      show compL F I r (acc ++ [x]) S1 = _
      rw [e2]
      simp
    · rcases List.mem_cons.mp hy with rfl | hy
      · exact p1
      · exact p2 y hy
theorem allD_of {P : PyData → Prop} : ∀ {ws : List W}, (∀ w ∈ ws, ∃ x, w = .d x ∧ P x) → ∃ ds, allD ws = some ds ∧ ds.length = ws.length ∧ ∀ x ∈ ds, P x
  | [], _ => ⟨[], rfl, rfl, by simp⟩
  | w :: r, h => by
    obtain ⟨x, rfl, px⟩ := h w (by simp)
    obtain ⟨ds, e, l, p⟩ := allD_of (P := P) fun w hw => h w (List.mem_cons_of_mem _ hw)
    refine ⟨x :: ds, ?_, by simp [l], fun y hy => ?_⟩
    · unfold allD
      rw [e]
    · rcases List.mem_cons.mp hy with rfl | hy
      · exact px
      · exact p y hy
theorem comp_data {c : Cfg} {e : Ev} {own : List Nat} {p : Pt} {k : IK} {es : List E} {el : E} {S S1 : Py.St} {ws : List W} {I : Itm} {V : Py.St → Prop} {P : PyData → Prop} (h1 : evEs c e es S = .ok ws S1) (h2 : itM k ws S1 = .ok I S1) (hI : I.keep = none) (hl : I.ws.length ≤ sizeLine) (v : V S1)
    (h : ∀ w ∈ I.ws, ∀ S, V S → ∃ e' x S', bindPt p w (wipeE e own) S = some e' ∧ evE c e' el S = .ok (.d x) S' ∧ V S' ∧ P x) : ∃ ds S', evE c e (.comp true own p k es none el) S = .ok (.d (.list ds)) S' ∧ V S' ∧ ds.length = I.ws.length ∧ ∀ x ∈ ds, P x := by
  rw [e_comp, h1]
  show ∃ ds S', ((itM k ws S1).bind _) = _ ∧ _
  rw [h2]
  obtain ⟨xs, S2, e2, v2, l2, p2⟩ := compL_inv (F := fun w S => match bindPt p w (wipeE e own) S with
    | some e' => (evOT c e' none S).bind fun b S => if b = true then (evE c e' el S).bind fun x S => .ok (some x) S else .ok none S
    | none => .fail) (I := I) (V := V) (P := fun w => ∃ x, w = .d x ∧ P x) hI I.ws [] S1 (by simpa using hl) v (by
      intro w hw S hS
      obtain ⟨e', x, S', a1, a2, a3, a4⟩ := h w hw S hS
      refine ⟨.d x, S', ?_, a3, x, rfl, a4⟩
      show (match bindPt p w (wipeE e own) S with
        | some e' => (evOT c e' none S).bind fun b S => if b = true then (evE c e' el S).bind fun x S => .ok (some x) S else .ok none S
        | none => .fail) = _
      rw [a1]
      show (evOT c e' none S).bind _ = _
      rw [evOT]
      show ((evE c e' el S).bind fun x S => Res.ok (some x) S) = _
      rw [a2]
      rfl)
  obtain ⟨ds, e5, l5, p5⟩ := allD_of p2
  refine ⟨ds, S2, ?_, v2, by rw [l5, l2], p5⟩
  refine (congrArg (fun r : Res (List W) => (noExc r).bind fun xs S => mkL true xs S) e2).trans ?_
  show mkL true ([] ++ xs) S2 = _
  unfold mkL
  rw [List.nil_append, if_pos (by rw [l2]; exact hl), if_pos rfl, e5]
/-- the bag at i stands, the rest is as in S0 -/
def Bag (S0 : Py.St) (i : Nat) (S : Py.St) : Prop := ∃ a b c, S = S0.set i (bagO a b c)
theorem draw_bag (k : Nat) {S0 S : Py.St} {i : Nat} (h : Bag S0 i S) (m : Int) (hm : 0 < m) (hl : m.natAbs.log2 < 9000) : ∃ r S', (cfgN md.prog (k + 1)).call "_law_draw" [.ref i, .d (.int m)] S = .ok (.d (.int r)) S' ∧ Bag S0 i S' ∧ 0 ≤ r ∧ r < m := by
  obtain ⟨a, b, c, rfl⟩ := h
  obtain ⟨r, a', b', c', e, h1, h2⟩ := draw_set k S0 i a b c m hm hl
  exact ⟨r, _, e, ⟨a', b', c', rfl⟩, h1, h2⟩
theorem strs_of : ∀ {ds : List PyData}, (∀ x ∈ ds, ∃ z : Str, x = .str z ∧ sgn z ∧ z.length = 1) → ∃ zs, strsD ds = some zs ∧ zs.length = ds.length ∧ (∀ z ∈ zs, sgn z) ∧ (zs.map (·.length)).sum = ds.length
  | [], _ => ⟨[], rfl, rfl, by simp, rfl⟩
  | x :: r, h => by
    obtain ⟨z, rfl, s1, l1⟩ := h x (by simp)
    obtain ⟨zs, e, l, p, q⟩ := strs_of fun w hw => h w (List.mem_cons_of_mem _ hw)
    refine ⟨z :: zs, ?_, by simp [l], fun y hy => ?_, by simp [q, l1]; omega⟩
    · unfold strsD
      rw [e]
      rfl
    · rcases List.mem_cons.mp hy with rfl | hy
      · exact s1
      · exact p y hy
theorem sgn_join {zs : List Str} (h : ∀ z ∈ zs, sgn z) : sgn (Txt.join "" zs) := by
  have key : ∀ (ps : List Str) (acc : Array Nat), (∀ z ∈ ps, sgn z) → (∀ c ∈ acc.toList, c < 0x110000) → ∀ c ∈ (ps.foldl (fun acc p => acc ++ ("" : Str).cps ++ p.cps) acc).toList, c < 0x110000 := by
    intro ps
    induction ps with
    | nil => intro acc _ ha; exact ha
    | cons p ps ih =>
      intro acc hp ha
      refine ih _ (fun z hz => hp z (List.mem_cons_of_mem _ hz)) ?_
      intro c hc
      have e : (acc ++ ("" : Str).cps ++ p.cps).toList = acc.toList ++ p.cps.toList := by
        have e0 : ("" : Str).cps.toList = [] := by decide +kernel
        simp [e0]
      rw [e] at hc
      rcases List.mem_append.mp hc with h1 | h1
      · exact ha c h1
      · exact hp p (by simp) c h1
  intro c hc
  refine key (zs.drop 1) _ (fun z hz => h z (List.mem_of_mem_drop hz)) ?_ c hc
  cases zs with
  | nil =>
    intro c hc
    simp [Str.empty] at hc
  | cons z zs => exact h z (by simp)
end K47

namespace K47
open PySem L2 Py
theorem cut_len (x : Str) (lo hi : Option Int) : (cutS x lo hi).length ≤ x.length := by
  unfold cutS
  show (List.toArray _).size ≤ x.cps.size
  simp
  omega
theorem app_len (x y : Str) : (x ++ y).length = x.length + y.length := by
  show (x.cps ++ y.cps).size = x.cps.size + y.cps.size
  simp
theorem small_ok {n : Nat} (h : n ≤ 1000) : n ≤ sizeLine := Nat.le_trans h (by decide)
theorem abc_comp (k : Nat) {S0 S : Py.St} {i : Nat} (h : Bag S0 i S) (w0 w1 w2 : W) : ∃ xs S', evE (cfgN md.prog (k + 1)) [some (.ref i), some w1, some w2, some (.d (.str "abcdefghijklmnopqrstuvwxyz")), none] (.comp true [4] (.v 4) .range1 [(.bin true .add (.k (.int 1)) (.call "_law_draw" [(.v 0), (.k (.int 6))] []))] none (.ix (.v 3) (.call "_law_draw" [(.v 0), (.k (.int 26))] []))) S = .ok (.d (.list xs)) S' ∧
    Bag S0 i S' ∧ xs.length ≤ 10 ∧ ∀ x ∈ xs, ∃ z : Str, x = .str z ∧ sgn z ∧ z.length = 1 := by
  obtain ⟨r, S1, e1, b1, g1, l1⟩ := draw_bag k h 6 (by decide) (by decide +kernel)
  have hlen : (rngW 0 (1 + r).toNat).length = (1 + r).toNat := by simp [rngW]
  have e6 : itM .range1 [.d (.int (1 + r))] S1 = .ok ⟨rngW 0 (1 + r).toNat, none⟩ S1 := by
    show (if -(2 ^ 62) ≤ 1 + r ∧ 1 + r < 2 ^ 62 then _ else _) = _
    rw [if_pos (by omega)]
  obtain ⟨ds, S2, q1, q2, q3, q4⟩ := comp_data (own := [4]) (p := .v 4) (V := Bag S0 i) (P := fun x => ∃ z : Str, x = .str z ∧ sgn z ∧ z.length = 1) (c := cfgN md.prog (k + 1)) (e := [some (.ref i), some w1, some w2, some (.d (.str "abcdefghijklmnopqrstuvwxyz")), none])
    (es := [(.bin true .add (.k (.int 1)) (.call "_law_draw" [(.v 0), (.k (.int 6))] []))]) (el := (.ix (.v 3) (.call "_law_draw" [(.v 0), (.k (.int 26))] []))) (S := S) (by simp [evE, evEs, bind_ok, scalD, e1, b_add]) e6 rfl (by rw [hlen]; exact small_ok (by omega)) b1 (by
      intro w hw S hS
      obtain ⟨q, S3, e3, b3, g3, l3⟩ := draw_bag k hS 26 (by decide) (by decide +kernel)
      obtain ⟨c, hc, e4⟩ := abc_at (S := S3) g3 l3
      refine ⟨[some (.ref i), some w1, some w2, some (.d (.str "abcdefghijklmnopqrstuvwxyz")), some w], .str ⟨#[c]⟩, S3, rfl, ?_, b3, ⟨#[c]⟩, rfl, ?_, rfl⟩
      · simp [evE, evEs, bind_ok, scalD, e3, e4]
      · intro d hd
        simp at hd
        rw [hd]
        exact hc)
  exact ⟨ds, S2, q1, q2, by rw [q3, hlen]; omega, q4⟩
theorem word_ok (k : Nat) {S0 S : Py.St} {i : Nat} (h : Bag S0 i S) {x : Str} (hx : x ∈ words) : ∃ z S', (cfgN md.prog (k + 2)).call "_law_other_word" [.ref i, .d (.str x)] S = .ok (.d (.str z)) S' ∧ Bag S0 i S' ∧ sgn z := by
  rw [c_word]
  obtain ⟨x1, x2, x3, x4⟩ := words_sgn hx
  obtain ⟨r, S1, e1, b1, g1, l1⟩ := draw_bag k h 4 (by decide) (by decide +kernel)
  by_cases h0 : r = 0
  · obtain ⟨q, S2, e2, b2, g2, l2⟩ := draw_bag k b1 26 (by decide) (by decide +kernel)
    obtain ⟨c, hc, e3⟩ := abc_at (S := S2) g2 l2
    have hl : x.length + (⟨#[c]⟩ : Str).length ≤ sizeLine := small_ok (by show x.length + 1 ≤ 1000; omega)
    refine ⟨x ++ ⟨#[c]⟩, S2, ?_, b2, sgn_app x1 fun d hd => by simp at hd; rw [hd]; exact hc⟩
    have e4 : binM true .add (.d (.str x)) (.d (.str ⟨#[c]⟩)) S2 = .ok (.d (.str (x ++ ⟨#[c]⟩))) S2 := if_pos hl
    simp [runDef, d__law_other_word, startE, exSs, exS, evE, evEs, evT, bind_ok, scalD, e1, e2, e3, e4, bindPt, c_eqI, truB, h0]
  by_cases h1 : r = 1
  · refine ⟨cutS x none (some (-1)), S1, ?_, b1, sgn_cut x1 _ _⟩
    have e4 : slM true (.d (.str x)) none (some (-1)) S1 = .ok (.d (.str (cutS x none (some (-1))))) S1 := if_pos (small_ok (by omega))
    simp [runDef, d__law_other_word, startE, exSs, exS, evE, evEs, evO, evT, bind_ok, scalD, e1, bindPt, c_eqI, truB, h0, h1, wi_eq, e4]
  by_cases h2 : r = 2
  · have c1 := cut_len x none (some 1)
    have c2 := cut_len x (some 1) none
    refine ⟨Txt.upper (cutS x none (some 1)) ++ cutS x (some 1) none, S1, ?_, b1, sgn_app x3 (sgn_cut x1 _ _)⟩
    have e4 : slM true (.d (.str x)) none (some 1) S1 = .ok (.d (.str (cutS x none (some 1)))) S1 := if_pos (small_ok (by omega))
    have e5 : slM true (.d (.str x)) (some 1) none S1 = .ok (.d (.str (cutS x (some 1) none))) S1 := if_pos (small_ok (by omega))
    have e6 : bmM true .str .upper (.d (.str (cutS x none (some 1)))) [] S1 = .ok (.d (.str (Txt.upper (cutS x none (some 1))))) S1 := if_pos (by omega)
    have e7 : binM true .add (.d (.str (Txt.upper (cutS x none (some 1))))) (.d (.str (cutS x (some 1) none))) S1 = .ok (.d (.str (Txt.upper (cutS x none (some 1)) ++ cutS x (some 1) none))) S1 := if_pos (small_ok (by omega))
    have e8 : (mid .str .upper).isSome = true := rfl
    simp [runDef, d__law_other_word, startE, exSs, exS, evE, evEs, evO, evT, bind_ok, scalD, e1, bindPt, c_eqI, truB, h0, h1, h2, wi_eq, e4, e5, e6, e7, kindW, e8]
  · obtain ⟨xs, S2, e2, b2, l2, p2⟩ := abc_comp k b1 (.ref i) (.d (.str x)) (.d (.int r))
    obtain ⟨zs, z1, z2, z3, z4⟩ := strs_of p2
    refine ⟨Txt.join "" zs, S2, ?_, b2, sgn_join z3⟩
    have l0 : ("" : Str).length = 0 := by decide +kernel
    have e3 : bmM true .str .join (.d (.str "")) [.d (.list xs)] S2 = .ok (.d (.str (Txt.join "" zs))) S2 := by
      have e4 : (lstD S2 (.d (.list xs))).bind strsD = some zs := z1
      have e5 : (zs.map (·.length)).sum + zs.length * ("" : Str).length ≤ 16777216 := by
        rw [z4, l0]
        omega
      simp only [bmM, e4]
      rw [if_pos e5]
    have e8 : (mid .str .join).isSome = true := rfl
    have t1 : ∀ e S j, e[2]? = some (some (.d (.int r))) → scalD (.int j) = true → r ≠ j → evT (cfgN md.prog (k + 1)) e (.e (.cmp .eq (.v 2) (.k (.int j)))) S = .ok false S := fun e S j h1 h2 h3 => by
      simp [evT, evE, h1, bind_ok, scalD, c_eqI, truB, h3]
    refine run_ret rfl ((x_nx (x_asg (w := .d (.int r)) (S1 := S1) ?_)).trans ((x_nx (x_asg (w := .d (.str "abcdefghijklmnopqrstuvwxyz")) (S1 := S1) ?_)).trans ((x_nx (x_skip (t1 _ _ 0 rfl rfl h0))).trans ((x_nx (x_skip (t1 _ _ 1 rfl rfl h1))).trans ((x_nx (x_skip (t1 _ _ 2 rfl rfl h2))).trans (x_ret (x_retE (e_bm1 true _ _ .join (x := .d (.str "")) (k := .str) ?_ rfl e8 e2 e3))))))))
    · simp [startE, d__law_other_word, evE, evEs, bind_ok, scalD, e1]
    · simp [evE, scalD]
    · simp [evE, scalD]
end K47

namespace K47
open PySem L2 Py
theorem c_odd (k : Nat) : (cfgN md.prog (k + 1)).call "_law_odd" = fun ws S => runDef (cfgN md.prog k) d__law_odd ws S := rfl
def okX (n : Nat) (x : PyData) : Prop := x.canLay0 = true ∧ x.depth ≤ n
def It1 (n : Nat) (S : Py.St) (w : W) : Prop := (∃ x, w = .d x ∧ okX n x) ∨ ∃ j, w = .ref j ∧ j < S.n ∧ S.o j = some (.dK [])
/-- later: the bag at i may differ, new things may have come -/
structure Later (i : Nat) (S S' : Py.St) : Prop where
  le : S.n ≤ S'.n
  eq : ∀ j, j < S.n → j ≠ i → S'.o j = S.o j
  bag : ∃ a b c, S'.o i = some (bagO a b c)
theorem Later.trans {i : Nat} {S S1 S2 : Py.St} (a : Later i S S1) (b : Later i S1 S2) : Later i S S2 :=
  ⟨Nat.le_trans a.le b.le, fun j h1 h2 => (b.eq j (Nat.lt_of_lt_of_le h1 a.le) h2).trans (a.eq j h1 h2), b.bag⟩
theorem Later.set {i : Nat} {S : Py.St} (a b c : Int) : Later i S (S.set i (bagO a b c)) := ⟨Nat.le_refl _, fun j _ h => set_ne _ h, a, b, c, set_same _ _⟩
theorem Later.push {i : Nat} {S : Py.St} {o : O} (hi : i < S.n) (h : ∃ a b c, S.o i = some (bagO a b c)) : Later i S (S.push o) :=
  ⟨Nat.le_succ _, fun j h1 _ => push_ne _ (Nat.ne_of_lt h1), by rw [push_ne _ (Nat.ne_of_lt hi)]; exact h⟩
theorem draw_l (k : Nat) {S : Py.St} {i : Nat} (h : ∃ a b c, S.o i = some (bagO a b c)) (m : Int) (hm : 0 < m) (hl : m.natAbs.log2 < 9000) : ∃ r S', (cfgN md.prog (k + 1)).call "_law_draw" [.ref i, .d (.int m)] S = .ok (.d (.int r)) S' ∧ Later i S S' ∧ 0 ≤ r ∧ r < m := by
  obtain ⟨a, b, c, h⟩ := h
  obtain ⟨r, a', b', c', e, h1, h2⟩ := draw_ok k S i a b c m h hm hl
  exact ⟨r, _, e, Later.set a' b' c', h1, h2⟩
theorem It1.later {n i : Nat} {S S' : Py.St} {w : W} (h : It1 n S w) (l : Later i S S') (hb : ∃ a b c, S.o i = some (bagO a b c)) : It1 n S' w := by
  rcases h with h | ⟨j, e1, e2, e3⟩
  · exact .inl h
  · refine .inr ⟨j, e1, Nat.lt_of_lt_of_le e2 l.le, ?_⟩
    rw [l.eq j e2 (fun z => by
      subst z
      obtain ⟨a, b, c, hb⟩ := hb
      rw [hb] at e3
      cases e3)]
    exact e3
def odd1 (n : Nat) : List W := [.d .none, .d (.bool true), .d (.bool false), .d (.str "1"), .d (.str ""), .d (.str "add"), .d (.tuple []), .d (.list []), .ref n, .d (.int 1), .d (.int 0), .d (.int (-1))]
def odd2 : List PyData := [.tuple [.str "add"], .list [.str "add"], .tuple [.str "put", .int 1], .tuple [.str "put"], .tuple [.str "add", .int 1], .tuple [.none], .tuple [.int 0, .int 0], .tuple [.str "jump", .int 0]]
theorem odd_all (n : Nat) : ∀ w ∈ odd1 n ++ odd2.map W.d, (∃ x, w = .d x ∧ okX 2 x) ∨ w = .ref n := by
  intro w hw
  simp only [odd1, odd2, List.cons_append, List.nil_append, List.map_cons, List.map_nil, List.mem_cons, List.not_mem_nil, or_false] at hw
  rcases hw with rfl | rfl | rfl | rfl | rfl | rfl | rfl | rfl | rfl | rfl | rfl | rfl | rfl | rfl | rfl | rfl | rfl | rfl | rfl | rfl <;> first
    | exact .inr rfl
    | exact .inl ⟨_, rfl, by decide +kernel, by decide +kernel⟩
theorem odd_ok (k : Nat) {S : Py.St} {i : Nat} (hi : i < S.n) (h : ∃ a b c, S.o i = some (bagO a b c)) : ∃ w S', (cfgN md.prog (k + 2)).call "_law_odd" [.ref i] S = .ok w S' ∧ Later i S S' ∧ It1 2 S' w := by
  rw [c_odd]
  let S1 := S.push (.dK [])
  let S2 := S1.push (.lst (odd1 S.n))
  let S3 := S2.push (.lst (odd1 S.n ++ odd2.map W.d))
  have b1 : Later i S S1 := .push hi h
  have b2 : Later i S S2 := b1.trans (.push (Nat.lt_succ_of_lt hi) b1.bag)
  have b3 : Later i S S3 := b2.trans (.push (Nat.lt_succ_of_lt (Nat.lt_succ_of_lt hi)) b2.bag)
  obtain ⟨r, S4, e4, b4, g4, l4⟩ := draw_l k b3.bag 20 (by decide) (by decide +kernel)
  have hlen : ((odd1 S.n ++ odd2.map W.d).length : Int) = 20 := by simp [odd1, odd2]
  have hr : r.toNat < (odd1 S.n ++ odd2.map W.d).length := by omega
  have s3 : S3.o (S.n + 2) = some (.lst (odd1 S.n ++ odd2.map W.d)) := push_same (S := S2) _
  have ne : S.n + 2 ≠ i := by omega
  have s4 : S4.o (S.n + 2) = some (.lst (odd1 S.n ++ odd2.map W.d)) := by
    rw [b4.eq (S.n + 2) (Nat.lt_succ_self _) ne]
    exact s3
  have d4 : S4.o S.n = some (.dK []) := by
    rw [b4.eq S.n (by show S.n < S.n + 1 + 1 + 1; omega) (by omega)]
    rw [show S3.o S.n = S2.o S.n from push_ne (S := S2) _ (by show S.n ≠ S.n + 1 + 1; omega), show S2.o S.n = S1.o S.n from push_ne (S := S1) _ (by show S.n ≠ S.n + 1; omega)]
    exact push_same _
  have n4 : S.n < S4.n := Nat.lt_of_lt_of_le (by show S.n < S.n + 1 + 1 + 1; omega) b4.le
  refine ⟨(odd1 S.n ++ odd2.map W.d)[r.toNat], S4, ?_, b3.trans b4, ?_⟩
  · have ix : ixM (.ref (S.n + 2)) (.d (.int r)) S4 = .ok ((odd1 S.n ++ odd2.map W.d)[r.toNat]) S4 := by
      simp only [ixM, seqOf, s4]
      rw [atA_nat g4 (by omega), List.getElem?_eq_getElem hr]
      rfl
    have v1 : evE (cfgN md.prog (k + 1)) [some (.ref i), none] (.lst false [(.k .none), (.k (.bool true)), (.k (.bool false)), (.k (.str "1")), (.k (.str "")), (.k (.str "add")), (.tup []), (.lst true []), .dK, (.k (.int 1)), (.k (.int 0)), (.neg (.k (.int 1)))]) S = .ok (.ref (S.n + 1)) S2 := by
      simp [evE, evEs, bind_ok, scalD, mkTup, allD, mkL, sizeLine, wi_eq, push_n]
      rfl
    have s2 : S2.o (S.n + 1) = some (.lst (odd1 S.n)) := push_same (S := S1) _
    have v2 : evE (cfgN md.prog (k + 1)) [some (.ref i), some (.ref (S.n + 1))] (.bin false .add (.v 1) (.lst true [(.tup [(.k (.str "add"))]), (.lst true [(.k (.str "add"))]), (.tup [(.k (.str "put")), (.k (.int 1))]), (.tup [(.k (.str "put"))]), (.tup [(.k (.str "add")), (.k (.int 1))]), (.tup [(.k .none)]), (.tup [(.k (.int 0)), (.k (.int 0))]), (.tup [(.k (.str "jump")), (.k (.int 0))])])) S2 = .ok (.ref (S.n + 2)) S3 := by
      have bb : binM false .add (.ref (S.n + 1)) (.d (.list odd2)) S2 = .ok (.ref (S.n + 2)) S3 := by
        simp only [binM, isScr, seqOf, s2, Bool.or_self]
        rfl
      simp [evE, evEs, bind_ok, scalD, mkTup, allD, mkL, sizeLine]
      exact bb
    refine run_ret rfl ((x_nx (x_asg v1)).trans ((x_nx (x_asg v2)).trans (x_ret (x_retE ?_))))
    simp [evE, evEs, bind_ok, scalD, e4, ix]
  · rcases odd_all S.n _ (List.getElem_mem hr) with ⟨x, e, hx⟩ | e
    · exact .inl ⟨x, e, hx⟩
    · exact .inr ⟨S.n, e, n4, d4⟩
end K47

namespace K47
open PySem L2 Py
theorem c_orow (k : Nat) : (cfgN md.prog (k + 1)).call "_law_other_row" = fun ws S => runDef (cfgN md.prog k) d__law_other_row ws S := rfl
def It2 (S : Py.St) (w : W) : Prop := It1 20 S w ∨ ∃ us, us ≠ [] ∧ w = .tup us ∧ ∀ u ∈ us, It1 2 S u
theorem gr_words {m : Int} {ds : List PyData} (h : gr m ds) : (∃ x, x ∈ words ∧ ds = [.str x]) ∨ ∃ x n, x ∈ words ∧ ds = [.str x, .int n] := by
  have r : ∀ {x}, x ∈ reachL → x ∈ words := fun {x} h => (by simp only [reachL, words, List.mem_cons] at h ⊢; grind)
  have l : ∀ {x}, x ∈ leadL → x ∈ words := fun {x} h => (by simp only [leadL, words, List.mem_cons] at h ⊢; grind)
  have b : ∀ {x}, x ∈ bareL → x ∈ words := fun {x} h => (by simp only [bareL, words, List.mem_cons] at h ⊢; grind)
  unfold gr at h
  split at h
  · exact .inl ⟨_, b h, rfl⟩
  · rcases h with h | ⟨h, _⟩ | ⟨h, _⟩
    · exact .inr ⟨_, _, by rw [h]; simp [words], rfl⟩
    · exact .inr ⟨_, _, r h, rfl⟩
    · exact .inr ⟨_, _, l h, rfl⟩
  · exact h.elim
theorem bag_self {S : Py.St} {i : Nat} (h : ∃ a b c, S.o i = some (bagO a b c)) : Bag S i S := by
  obtain ⟨a, b, c, h⟩ := h
  exact ⟨a, b, c, (set_self h).symm⟩
theorem bag_later {S S' : Py.St} {i : Nat} (h : Bag S i S') : Later i S S' := by
  obtain ⟨a, b, c, rfl⟩ := h
  exact Later.set a b c
theorem ok1 {z : Str} (h : sgn z) : okX 20 (.tuple [.str z]) ∧ okX 20 (.list [.str z]) := by
  simp [okX, PyData.canLay0, PyData.canLayAll0, PyData.depth, PyData.depthAll, sgn_ok h]
theorem ok2 {z : Str} (n : Int) (h : sgn z) : okX 20 (.tuple [.str z, .int n]) ∧ okX 20 (.list [.str z, .int n]) := by
  simp [okX, PyData.canLay0, PyData.canLayAll0, PyData.depth, PyData.depthAll, sgn_ok h]
theorem ok3 {z : Str} (n p : Int) (h : sgn z) : okX 20 (.tuple [.str z, .int n, .int p]) := by
  simp [okX, PyData.canLay0, PyData.canLayAll0, PyData.depth, PyData.depthAll, sgn_ok h]
theorem okw (n : Nat) {z : Str} (h : sgn z) : okX n (.str z) := by
  simp [okX, PyData.canLay0, PyData.depth, sgn_ok h]
/-- a tuple of a text or number and an odd thing -/
theorem tup_odd {S : Py.St} {us : List W} (h0 : us ≠ []) (h : ∀ u ∈ us, It1 2 S u) : It2 S (mkTup us) := by
  unfold mkTup
  split
  · rename_i ds e
    refine .inl (.inl ⟨_, rfl, ?_⟩)
    have key : ∀ (us : List W) (ds : List PyData), allD us = some ds → (∀ u ∈ us, It1 2 S u) → PyData.canLayAll0 ds = true ∧ PyData.depthAll ds ≤ 2 := by
      intro us
      induction us with
      | nil =>
        intro ds e _
        cases e
        exact ⟨rfl, by decide⟩
      | cons u us ih =>
        intro ds e h
        rcases h u (by simp) with ⟨x, rfl, hx⟩ | ⟨j, rfl, _⟩
        · unfold allD at e
          split at e
          · rename_i ds' e'
            cases e
            obtain ⟨i1, i2⟩ := ih ds' e' fun w hw => h w (List.mem_cons_of_mem _ hw)
            refine ⟨by simp [PyData.canLayAll0, hx.1, i1], ?_⟩
            have := hx.2
            simp only [PyData.depthAll]
            omega
          · cases e
        · cases e
    obtain ⟨k1, k2⟩ := key us ds e h
    exact ⟨by simpa [PyData.canLay0] using k1, by simp only [PyData.depth]; omega⟩
  · exact .inr ⟨us, h0, rfl, h⟩
theorem s_from1 (S : Py.St) (x : Str) : slM true (.d (.tuple [.str x])) (some 1) none S = .ok (.d (.tuple [])) S := by rfl
theorem s_from2 (S : Py.St) (x : Str) (n : Int) : slM true (.d (.tuple [.str x, .int n])) (some 1) none S = .ok (.d (.tuple [.int n])) S := by rfl
theorem s_to2 (S : Py.St) (x : Str) (n : Int) : slM true (.d (.tuple [.str x, .int n])) none (some 1) S = .ok (.d (.tuple [.str x])) S := by rfl
theorem t_ix1 (S : Py.St) (x : Str) : ixM (.d (.tuple [.str x])) (.d (.int 0)) S = .ok (.d (.str x)) S := rfl
theorem t_ix2 (S : Py.St) (x : Str) (n : Int) : ixM (.d (.tuple [.str x, .int n])) (.d (.int 0)) S = .ok (.d (.str x)) S := rfl
theorem t_len1 (S : Py.St) (x : Str) : biM true .len [.d (.tuple [.str x])] S = .ok (.d (.int 1)) S := rfl
theorem t_len2 (S : Py.St) (x : Str) (n : Int) : biM true .len [.d (.tuple [.str x, .int n])] S = .ok (.d (.int 2)) S := rfl
theorem t_add (S : Py.St) (x : PyData) (ds : List PyData) (p : PyData) (h : ds.length ≤ 10) : binM true .add (.d (.tuple (x :: ds))) (.d (.tuple [p])) S = .ok (.d (.tuple (x :: ds ++ [p]))) S := by
  have : (x :: ds).length + [p].length ≤ sizeLine := small_ok (by simp; omega)
  simp only [binM, isScr, seqOf, Bool.or_self]
  rw [if_neg (by decide)]
  simp only [List.length_map]
  rw [if_pos this]
  have e : allD ((x :: ds).map W.d ++ [p].map W.d) = some (x :: ds ++ [p]) := by
    rw [← List.map_append, allD_map]
  simp only [List.map_cons, List.map_nil] at e ⊢
  show Res.ok (mkTup (W.d x :: (ds.map W.d ++ [W.d p]))) S = _
  unfold mkTup
  have e : allD (W.d x :: (ds.map W.d ++ [W.d p])) = some (x :: ds ++ [p]) := e
  rw [e]
theorem t_add0 (S : Py.St) (w : W) : binM true .add (mkTup [w]) (.d (.tuple [])) S = .ok (mkTup [w]) S := by
  cases w <;> rfl
theorem t_add1 (S : Py.St) (w : W) (n : Int) : binM true .add (mkTup [w]) (.d (.tuple [.int n])) S = .ok (mkTup [w, .d (.int n)]) S := by
  cases w <;> rfl
end K47

namespace K47
open PySem L2 Py
theorem far_ix (S : Py.St) (a b c d e r : Int) (h0 : 0 ≤ r) (h : r < 5) : ∃ z, ixM (.d (.list [.int a, .int b, .int c, .int d, .int e])) (.d (.int r)) S = .ok (.d (.int z)) S := by
  have q : r = 0 ∨ r = 1 ∨ r = 2 ∨ r = 3 ∨ r = 4 := by omega
  rcases q with rfl | rfl | rfl | rfl | rfl
  · exact ⟨a, rfl⟩
  · exact ⟨b, rfl⟩
  · exact ⟨c, rfl⟩
  · exact ⟨d, rfl⟩
  · exact ⟨e, rfl⟩
theorem mk_str (x : Str) (n : Int) : mkTup [.d (.str x), .d (.int n)] = .d (.tuple [.str x, .int n]) := rfl
theorem mk_s1 (x : Str) : mkTup [.d (.str x)] = .d (.tuple [.str x]) := rfl
theorem mk_i1 (n : Int) : mkTup [.d (.int n)] = .d (.tuple [.int n]) := rfl
theorem two_ok : 2 ≤ sizeLine := by decide
theorem one_ok : 1 ≤ sizeLine := by decide
theorem orow_ok (k : Nat) {S : Py.St} {i : Nat} (hi : i < S.n) (hb : ∃ a b c, S.o i = some (bagO a b c)) {m way : Int} (hm : 0 ≤ m) (hm2 : m ≤ 100) {ds : List PyData} (hg : gr m ds) (hw : 1 ≤ way) (hw2 : way ≤ 8) :
    ∃ w S', (cfgN md.prog (k + 3)).call "_law_other_row" [.ref i, .d (.tuple ds), .d (.int m), .d (.int way)] S = .ok w S' ∧ Later i S S' ∧ It2 S' w := by
  rw [c_orow]
  have hway : way = 1 ∨ way = 2 ∨ way = 3 ∨ way = 4 ∨ way = 5 ∨ way = 6 ∨ way = 7 ∨ way = 8 := by omega
  rcases hway with rfl | rfl | rfl | rfl | rfl | rfl | rfl | rfl
  · obtain ⟨r1, S1, e1, l1, g1, u1⟩ := draw_l (k + 1) hb 100000000000000000000 (by decide) (by decide +kernel)
    obtain ⟨r2, S2, e2, l2, g2, u2⟩ := draw_l (k + 1) l1.bag 5 (by decide) (by decide +kernel)
    obtain ⟨z, hz⟩ := far_ix S2 (-1 - r1) m (m + 1) (m + 1 + r1) (-1) r2 g2 u2
    rcases gr_words hg with ⟨x, hx, rfl⟩ | ⟨x, n, hx, rfl⟩
    · refine ⟨.d (.tuple [.str x, .int z]), S2, ?_, l1.trans l2, .inl (.inl ⟨_, rfl, (ok2 z (words_sgn hx).1).1⟩)⟩
      simp [runDef, d__law_other_row, startE, exSs, exS, evE, evEs, evT, bind_ok, scalD, c_eqI, truB, p20, e1, bindPt, t_ix1, b_sub, b_add, mkL, allD, sizeLine, wi_eq, e2, hz, mk_str]
    · refine ⟨.d (.tuple [.str x, .int z]), S2, ?_, l1.trans l2, .inl (.inl ⟨_, rfl, (ok2 z (words_sgn hx).1).1⟩)⟩
      simp [runDef, d__law_other_row, startE, exSs, exS, evE, evEs, evT, bind_ok, scalD, c_eqI, truB, p20, e1, bindPt, t_ix2, b_sub, b_add, mkL, allD, sizeLine, wi_eq, e2, hz, mk_str]
  · rcases gr_words hg with ⟨x, hx, rfl⟩ | ⟨x, n, hx, rfl⟩
    · obtain ⟨z, S1, e1, b1, hz⟩ := word_ok k (bag_self hb) hx
      refine ⟨.d (.tuple [.str z]), S1, ?_, bag_later b1, .inl (.inl ⟨_, rfl, (ok1 hz).1⟩)⟩
      have t := t_add0 S1 (.d (.str z))
      simp [runDef, d__law_other_row, startE, exSs, exS, evE, evEs, evO, evT, bind_ok, scalD, c_eqI, truB, bindPt, t_ix1, e1, s_from1, one_ok, t]
      rfl
    · obtain ⟨z, S1, e1, b1, hz⟩ := word_ok k (bag_self hb) hx
      refine ⟨.d (.tuple [.str z, .int n]), S1, ?_, bag_later b1, .inl (.inl ⟨_, rfl, (ok2 n hz).1⟩)⟩
      have t := t_add1 S1 (.d (.str z)) n
      simp [runDef, d__law_other_row, startE, exSs, exS, evE, evEs, evO, evT, bind_ok, scalD, c_eqI, truB, bindPt, t_ix2, e1, s_from2, one_ok, t]
      rfl
  · rcases gr_words hg with ⟨x, hx, rfl⟩ | ⟨x, n, hx, rfl⟩
    · obtain ⟨r, S1, e1, l1, g1, u1⟩ := draw_l (k + 1) hb (m + 1) (by omega) (log_small hm hm2)
      refine ⟨.d (.tuple [.str x, .int r]), S1, ?_, l1, .inl (.inl ⟨_, rfl, (ok2 r (words_sgn hx).1).1⟩)⟩
      have t := t_add S1 (.str x) [] (.int r) (by decide)
      simp [runDef, d__law_other_row, startE, exSs, exS, evE, evEs, evO, evT, bind_ok, scalD, c_eqI, truB, bindPt, t_len1, b_add, e1, one_ok, mk_i1, t]
    · refine ⟨.d (.tuple [.str x]), S, ?_, ⟨Nat.le_refl _, fun _ _ _ => rfl, hb⟩, .inl (.inl ⟨_, rfl, (ok1 (words_sgn hx).1).1⟩)⟩
      simp [runDef, d__law_other_row, startE, exSs, exS, evE, evEs, evO, evT, bind_ok, scalD, c_eqI, truB, bindPt, t_len2, s_to2]
  · obtain ⟨w, S1, e1, l1, q1⟩ := odd_ok (k) hi hb
    have e1 : (cfgN md.prog (k + 2)).call "_law_odd" [.ref i] S = .ok w S1 := e1
    rcases gr_words hg with ⟨x, hx, rfl⟩ | ⟨x, n, hx, rfl⟩
    · refine ⟨mkTup [.d (.str x), w], S1, ?_, l1, tup_odd (by simp) fun u hu => ?_⟩
      · simp [runDef, d__law_other_row, startE, exSs, exS, evE, evEs, evO, evT, bind_ok, scalD, c_eqI, truB, bindPt, t_ix1, e1, two_ok]
      · rcases List.mem_cons.mp hu with rfl | hu
        · exact .inl ⟨_, rfl, okw 2 (words_sgn hx).1⟩
        · rw [List.mem_singleton.mp hu]
          exact q1
    · refine ⟨mkTup [.d (.str x), w], S1, ?_, l1, tup_odd (by simp) fun u hu => ?_⟩
      · simp [runDef, d__law_other_row, startE, exSs, exS, evE, evEs, evO, evT, bind_ok, scalD, c_eqI, truB, bindPt, t_ix2, e1, two_ok]
      · rcases List.mem_cons.mp hu with rfl | hu
        · exact .inl ⟨_, rfl, okw 2 (words_sgn hx).1⟩
        · rw [List.mem_singleton.mp hu]
          exact q1
  · rcases gr_words hg with ⟨x, hx, rfl⟩ | ⟨x, n, hx, rfl⟩
    · refine ⟨.d (.list [.str x]), S, ?_, ⟨Nat.le_refl _, fun _ _ _ => rfl, hb⟩, .inl (.inl ⟨_, rfl, (ok1 (words_sgn hx).1).2⟩)⟩
      simp [runDef, d__law_other_row, startE, exSs, exS, evE, evEs, evO, evT, bind_ok, scalD, c_eqI, truB, bindPt, biM, seqOf, mkL, sizeLine, allD]
    · refine ⟨.d (.list [.str x, .int n]), S, ?_, ⟨Nat.le_refl _, fun _ _ _ => rfl, hb⟩, .inl (.inl ⟨_, rfl, (ok2 n (words_sgn hx).1).2⟩)⟩
      simp [runDef, d__law_other_row, startE, exSs, exS, evE, evEs, evO, evT, bind_ok, scalD, c_eqI, truB, bindPt, biM, seqOf, mkL, sizeLine, allD]
  · obtain ⟨w, S1, e1, l1, q1⟩ := odd_ok (k) hi hb
    have e1 : (cfgN md.prog (k + 2)).call "_law_odd" [.ref i] S = .ok w S1 := e1
    refine ⟨w, S1, ?_, l1, .inl ?_⟩
    · simp [runDef, d__law_other_row, startE, exSs, exS, evE, evEs, evO, evT, bind_ok, scalD, c_eqI, truB, bindPt, e1]
    · rcases q1 with ⟨x, e, h1, h2⟩ | h
      · exact .inl ⟨x, e, h1, by omega⟩
      · exact .inr h
  · obtain ⟨w, S1, e1, l1, q1⟩ := odd_ok (k) hi hb
    have e1 : (cfgN md.prog (k + 2)).call "_law_odd" [.ref i] S = .ok w S1 := e1
    rcases gr_words hg with ⟨x, hx, rfl⟩ | ⟨x, n, hx, rfl⟩
    · refine ⟨mkTup [w], S1, ?_, l1, tup_odd (by simp) fun u hu => ?_⟩
      · have t := t_add0 S1 w
        simp [runDef, d__law_other_row, startE, exSs, exS, evE, evEs, evO, evT, bind_ok, scalD, c_eqI, truB, bindPt, s_from1, e1, one_ok, t]
      · rw [List.mem_singleton.mp hu]
        exact q1
    · refine ⟨mkTup [w, .d (.int n)], S1, ?_, l1, tup_odd (by simp) fun u hu => ?_⟩
      · have t := t_add1 S1 w n
        simp [runDef, d__law_other_row, startE, exSs, exS, evE, evEs, evO, evT, bind_ok, scalD, c_eqI, truB, bindPt, s_from2, e1, one_ok, t]
      · rcases List.mem_cons.mp hu with rfl | hu
        · exact q1
        · rw [List.mem_singleton.mp hu]
          exact .inl ⟨_, rfl, by simp [okX, PyData.canLay0, PyData.depth]⟩
  · rcases gr_words hg with ⟨x, hx, rfl⟩ | ⟨x, n, hx, rfl⟩
    · refine ⟨.d (.tuple [.str x, .int 0]), S, ?_, ⟨Nat.le_refl _, fun _ _ _ => rfl, hb⟩, .inl (.inl ⟨_, rfl, (ok2 0 (words_sgn hx).1).1⟩)⟩
      have t := t_add S (.str x) [] (.int 0) (by decide)
      simp [runDef, d__law_other_row, startE, exSs, exS, evE, evEs, evO, evT, bind_ok, scalD, c_eqI, truB, bindPt, one_ok, mk_i1, t]
    · refine ⟨.d (.tuple [.str x, .int n, .int 0]), S, ?_, ⟨Nat.le_refl _, fun _ _ _ => rfl, hb⟩, .inl (.inl ⟨_, rfl, ok3 n 0 (words_sgn hx).1⟩)⟩
      have t := t_add S (.str x) [.int n] (.int 0) (by simp)
      simp [runDef, d__law_other_row, startE, exSs, exS, evE, evEs, evO, evT, bind_ok, scalD, c_eqI, truB, bindPt, one_ok, mk_i1, t]
end K47

namespace K47
open PySem L2 Py
theorem c_thing (k : Nat) : (cfgN md.prog (k + 1)).call "_law_thing" = fun ws S => runDef (cfgN md.prog k) d__law_thing ws S := rfl
def kv0 : List (Key × W) := [(.inl 0, .d (.tuple [.str "add"]))]
def short : PyData → Bool
  | .list ds => decide (ds.length ≤ 1000)
  | _ => true
/-- what the law may hand in -/
def Thing (S : Py.St) (w : W) : Prop :=
  (∃ x, w = .d x ∧ okX 40 x ∧ short x = true) ∨ (∃ j ws, w = .ref j ∧ j < S.n ∧ S.o j = some (.lst ws) ∧ ws.length ≤ 1000 ∧ ∀ u ∈ ws, It2 S u) ∨ ∃ j, w = .ref j ∧ j < S.n ∧ S.o j = some (.dK kv0)
structure RowsOk (rows : List PyData) : Prop where
  len : rows.length ≤ 100
  all : ∀ x ∈ rows, ∃ ds, x = .tuple ds ∧ gr rows.length ds
theorem row_okX {m : Int} {ds : List PyData} (h : gr m ds) : okX 20 (.tuple ds) := by
  rcases gr_words h with ⟨x, hx, rfl⟩ | ⟨x, n, hx, rfl⟩
  · exact (ok1 (words_sgn hx).1).1
  · exact (ok2 n (words_sgn hx).1).1
theorem lay_all {n : Nat} : ∀ {ds : List PyData}, (∀ x ∈ ds, okX n x) → PyData.canLayAll0 ds = true ∧ PyData.depthAll ds ≤ n
  | [], _ => ⟨rfl, Nat.zero_le _⟩
  | x :: r, h => by
    obtain ⟨h1, h2⟩ := h x (by simp)
    obtain ⟨i1, i2⟩ := lay_all (ds := r) fun w hw => h w (List.mem_cons_of_mem _ hw)
    refine ⟨by simp [PyData.canLayAll0, h1, i1], ?_⟩
    simp only [PyData.depthAll]
    omega
theorem okX_list {n : Nat} {ds : List PyData} (h : ∀ x ∈ ds, okX n x) : okX (n + 1) (.list ds) ∧ okX (n + 1) (.tuple ds) := by
  obtain ⟨h1, h2⟩ := lay_all h
  constructor <;> exact ⟨by simpa [PyData.canLay0] using h1, by simp only [PyData.depth]; omega⟩
theorem okX.mono {n m : Nat} {x : PyData} (h : okX n x) (hn : n ≤ m) : okX m x := ⟨h.1, Nat.le_trans h.2 hn⟩
theorem sl_rows (S : Py.St) {rows : List PyData} (h : rows.length ≤ 100) (lo hi : Option Int) : ∃ sub, slM true (.d (.list rows)) lo hi S = .ok (.d (.list sub)) S ∧ (∀ x ∈ sub, x ∈ rows) ∧ sub.length ≤ 100 := by
  let a := HT.sIx rows.length 0 lo
  let b := HT.sIx rows.length rows.length hi - HT.sIx rows.length 0 lo
  have e : cutA (rows.map W.d) lo hi = ((rows.drop a).take b).map W.d := by
    unfold cutA
    simp [List.map_drop, List.map_take]
    rfl
  have hl : ((rows.drop a).take b).length ≤ 100 := by
    simp
    omega
  refine ⟨(rows.drop a).take b, ?_, fun x hx => List.mem_of_mem_drop (List.mem_of_mem_take hx), hl⟩
  show mkL true (cutA (rows.map W.d) lo hi) S = _
  rw [e]
  unfold mkL
  rw [if_pos (by rw [List.length_map]; exact small_ok (by omega)), if_pos rfl, allD_map]
theorem len_rows (S : Py.St) (rows : List PyData) : biM true .len [.d (.list rows)] S = .ok (.d (.int (rows.length : Int))) S := by
  show okW S (((lenM S (.d (.list rows)))).map wi) = _
  have : lenM S (.d (.list rows)) = some (rows.length : Int) := by
    show ((seqOf S (.d (.list rows))).map fun p => (p.2.length : Int)) = _
    simp [seqOf]
  rw [this]
  rfl
theorem eq_nil (S : Py.St) {rows : List PyData} (h : ∀ x ∈ rows, okX 20 x) : cmpM .eq (.d (.list rows)) (.d (.list [])) S = .ok (.d (.bool rows.isEmpty)) S := by
  obtain ⟨h1, h2⟩ := (okX_list h).1
  have s1 : SeqAt.shaped (.list rows) = true := by
    unfold SeqAt.shaped
    rw [h1]
    simp
    omega
  have s2 : SeqAt.shaped (.list []) = true := by decide +kernel
  have e : eqM S (.d (.list rows)) (.d (.list [])) = some rows.isEmpty := by
    have e0 : eqM0 S (.d (.list rows)) (.d (.list [])) = some rows.isEmpty := by
      show (if scal2 (.list rows) (.list []) || (SeqAt.shaped (.list rows) && SeqAt.shaped (.list [])) then some (PyData.eqv (.list rows) (.list [])) else none) = _
      rw [s1, s2]
      cases rows <;> rfl
    unfold eqM
    rw [e0]
  show okB S (eqM S _ _) = _
  rw [e]
  rfl
theorem thing_ok (k : Nat) {S : Py.St} {i : Nat} (hi : i < S.n) (hb : ∃ a b c, S.o i = some (bagO a b c)) {rows : List PyData} (hr : RowsOk rows) :
    ∃ w S', (cfgN md.prog (k + 4)).call "_law_thing" [.ref i, .d (.list rows)] S = .ok w S' ∧ Later i S S' ∧ Thing S' w := by
  rw [c_thing]
  have hx : ∀ x ∈ rows, okX 20 x := fun x hx => by
    obtain ⟨ds, rfl, hg⟩ := hr.all x hx
    exact row_okX hg
  obtain ⟨r1, S1, e1, l1, g1, u1⟩ := draw_l (k + 2) hb 12 (by decide) (by decide +kernel)
  have i1 : i < S1.n := Nat.lt_of_lt_of_le hi l1.le
  by_cases h0 : r1 = 0
  · subst h0
    refine ⟨.d (.list rows), S1, ?_, l1, .inl ⟨_, rfl, (okX_list hx).1.mono (by decide), decide_eq_true (by have := hr.len; omega)⟩⟩
    simp [runDef, d__law_thing, startE, exSs, exS, evE, evEs, evT, bind_ok, scalD, e1, bindPt, c_eqI, truB]
  have eqn := eq_nil S1 hx
  by_cases h9 : r1 = 9 ∨ rows.isEmpty = true
  · -- one of ten
    let L : List W := [.d .none, .d (.bool true), .d (.int 0), .d (.str ""), .d (.str "add"), .d (.tuple rows), .d (.list [.list rows]), .ref S1.n, .d (.tuple [.str "add"]), .d (.list [.tuple []])]
    let S2 := (S1.push (.dK [])).set S1.n (.dK kv0)
    let S3 := S2.push (.lst L)
    have o2 : S2.o i = S1.o i := by
      show ((S1.push (.dK [])).set S1.n (.dK kv0)).o i = _
      rw [set_ne _ (Nat.ne_of_lt i1), push_ne _ (Nat.ne_of_lt i1)]
    have b2 : ∃ a b c, S2.o i = some (bagO a b c) := by
      rw [o2]
      exact l1.bag
    have l2 : Later i S1 S2 := ⟨Nat.le_succ _, fun j hj hn => by
      show ((S1.push (.dK [])).set S1.n (.dK kv0)).o j = _
      rw [set_ne _ (Nat.ne_of_lt hj), push_ne _ (Nat.ne_of_lt hj)], b2⟩
    have l3 : Later i S1 S3 := l2.trans (.push (Nat.lt_succ_of_lt i1) b2)
    obtain ⟨r, S4, e4, l4, g4, u4⟩ := draw_l (k + 2) l3.bag 10 (by decide) (by decide +kernel)
    have s3 : S3.o (S1.n + 1) = some (.lst L) := push_same (S := S2) _
    have s4 : S4.o (S1.n + 1) = some (.lst L) := by
      rw [l4.eq (S1.n + 1) (Nat.lt_succ_self _) (by omega)]
      exact s3
    have d4 : S4.o S1.n = some (.dK kv0) := by
      rw [l4.eq S1.n (by show S1.n < S1.n + 1 + 1; omega) (by omega), show S3.o S1.n = S2.o S1.n from push_ne (S := S2) _ (by show S1.n ≠ S1.n + 1; omega)]
      exact set_same _ _
    have n4 : S1.n < S4.n := Nat.lt_of_lt_of_le (by show S1.n < S1.n + 1 + 1; omega) l4.le
    have hlt : r.toNat < L.length := by show r.toNat < 10; omega
    refine ⟨L[r.toNat], S4, ?_, l1.trans (l3.trans l4), ?_⟩
    · have ix : ixM (.ref (S1.n + 1)) (.d (.int r)) S4 = .ok (L[r.toNat]) S4 := by
        simp only [ixM, seqOf, s4]
        rw [atA_nat g4 (by show r < 10; omega), List.getElem?_eq_getElem hlt]
        rfl
      have tp : biM true .tuple_ [.d (.list rows)] S1 = .ok (.d (.tuple rows)) S1 := by
        show Res.ok (mkTup (rows.map W.d)) S1 = _
        unfold mkTup
        rw [allD_map]
      have v1 : evE (cfgN md.prog (k + 3)) [some (.ref i), some (.d (.list rows)), some (.d (.int r1)), none] (.lst false [(.k .none), (.k (.bool true)), (.k (.int 0)), (.k (.str "")), (.k (.str "add")), (.bi true .tuple_ [(.v 1)]), (.lst true [(.v 1)]), (.disp [(.k (.int 0))] [(.tup [(.k (.str "add"))])]), (.tup [(.k (.str "add"))]), (.lst true [(.tup [])])]) S1 = .ok (.ref (S1.n + 1)) S3 := by
        have dd : dispM S1.n [(.inl 0, .d (.tuple [.str "add"]))] (S1.push (.dK [])) = .ok (.ref S1.n) S2 := by
          unfold dispM
          rw [push_same]
          rfl
        simp [evE, evEs, bind_ok, scalD, tp, mkTup, allD, mkL, sizeLine, keysE, keyD, dd]
        exact ⟨rfl, rfl⟩
      have cond : evT (cfgN md.prog (k + 3)) [some (.ref i), some (.d (.list rows)), some (.d (.int r1)), none] (.or (.e (.cmp .eq (.v 2) (.k (.int 9)))) (.e (.cmp .eq (.v 1) (.lst true [])))) S1 = .ok true S1 := by
        by_cases h : r1 = 9
        · simp [evT, evE, evEs, bind_ok, scalD, c_eqI, truB, h]
        · have h2 := h9.resolve_left h
          simp [evT, evE, evEs, bind_ok, scalD, c_eqI, truB, h, mkL, sizeLine, allD, eqn, h2]
      have sk : evT (cfgN md.prog (k + 3)) [some (.ref i), some (.d (.list rows)), some (.d (.int r1)), none] (.e (.cmp .eq (.v 2) (.k (.int 0)))) S1 = .ok false S1 := by
        simp [evT, evE, evEs, bind_ok, scalD, c_eqI, truB, h0]
      have a1 : evE (cfgN md.prog (k + 3)) [some (.ref i), some (.d (.list rows)), none, none] (.call "_law_draw" [(.v 0), (.k (.int 12))] []) S = .ok (.d (.int r1)) S1 := by
        simp [evE, evEs, bind_ok, scalD, e1]
      refine run_ret rfl ((x_nx (x_asg a1)).trans ((x_nx (x_skip sk)).trans (x_ret (x_ift cond (x_ret (x_retE ?_))))))
      rw [evE]
      show ((evE _ _ _ S1).bind _) = _
      rw [v1]
      simp [bind_ok, evE, evEs, scalD, e4, ix]
    · have hm : ∀ w ∈ L, (∃ x, w = .d x ∧ okX 40 x ∧ short x = true) ∨ w = .ref S1.n := by
        intro w hw
        simp only [L, List.mem_cons, List.not_mem_nil, or_false] at hw
        rcases hw with rfl | rfl | rfl | rfl | rfl | rfl | rfl | rfl | rfl | rfl
        · exact .inl ⟨_, rfl, ⟨by decide +kernel, by decide +kernel⟩, rfl⟩
        · exact .inl ⟨_, rfl, ⟨by decide +kernel, by decide +kernel⟩, rfl⟩
        · exact .inl ⟨_, rfl, ⟨by decide +kernel, by decide +kernel⟩, rfl⟩
        · exact .inl ⟨_, rfl, ⟨by decide +kernel, by decide +kernel⟩, rfl⟩
        · exact .inl ⟨_, rfl, ⟨by decide +kernel, by decide +kernel⟩, rfl⟩
        · exact .inl ⟨_, rfl, (okX_list hx).2.mono (by decide), rfl⟩
        · exact .inl ⟨_, rfl, (okX_list (n := 21) (fun x hx' => by rw [List.mem_singleton.mp hx']; exact (okX_list hx).1)).1.mono (by decide), rfl⟩
        · exact .inr rfl
        · exact .inl ⟨_, rfl, ⟨by decide +kernel, by decide +kernel⟩, rfl⟩
        · exact .inl ⟨_, rfl, ⟨by decide +kernel, by decide +kernel⟩, rfl⟩
      rcases hm _ (List.getElem_mem hlt) with h | h
      · exact .inl h
      · exact .inr (.inr ⟨_, h, n4, d4⟩)
  · have h9' : r1 ≠ 9 := fun z => h9 (.inl z)
    have hne : rows.isEmpty = false := by
      cases h : rows.isEmpty with
      | false => rfl
      | true => exact absurd (.inr h) h9
    by_cases h10 : 9 < r1
    · obtain ⟨sub, e2, m2, n2⟩ := sl_rows S1 hr.len none (some (-1))
      refine ⟨.d (.list sub), S1, ?_, l1, .inl ⟨_, rfl, (okX_list fun x h => hx x (m2 x h)).1.mono (by decide), decide_eq_true (by omega)⟩⟩
      simp [runDef, d__law_thing, startE, exSs, exS, evE, evEs, evO, evT, bind_ok, scalD, e1, bindPt, c_eqI, c_gt, truB, h0, h9', mkL, sizeLine, allD, eqn, hne, h10, wi_eq, e2]
    · have lp : 0 < rows.length := by
        cases rows with
        | nil => cases hne
        | cons _ _ => simp
      have hl := hr.len
      obtain ⟨r2, S2, e2, l2, g2, u2⟩ := draw_l (k + 2) l1.bag (rows.length : Int) (by omega) (by
        have : (rows.length : Int).natAbs.log2 < 7 := by
          rw [Nat.log2_lt (by omega)]
          omega
        omega)
      have hlt : r2.toNat < rows.length := by omega
      obtain ⟨ds, hds, hg⟩ := hr.all _ (List.getElem_mem hlt)
      have i2 : i < S2.n := Nat.lt_of_lt_of_le i1 l2.le
      obtain ⟨sub1, s1, m1, n1⟩ := sl_rows S2 hr.len none (some r2)
      obtain ⟨w, S3, e3, l3, q3⟩ := orow_ok k i2 l2.bag (m := (rows.length : Int)) (way := r1) (by omega) (by omega) hg (by omega) (by omega)
      have i3 : i < S3.n := Nat.lt_of_lt_of_le i2 l3.le
      let S4 := S3.push (.lst [w])
      let S5 := S4.push (.lst (sub1.map W.d ++ [w]))
      obtain ⟨sub2, s2, m2, n2⟩ := sl_rows S5 hr.len (some (r2 + 1)) none
      let S6 := S5.push (.lst (sub1.map W.d ++ [w] ++ sub2.map W.d))
      have l4 : Later i S3 S4 := .push i3 l3.bag
      have l5 : Later i S3 S5 := l4.trans (.push (Nat.lt_succ_of_lt i3) l4.bag)
      have l6 : Later i S3 S6 := l5.trans (.push (Nat.lt_succ_of_lt (Nat.lt_succ_of_lt i3)) l5.bag)
      have rix : ixM (.d (.list rows)) (.d (.int r2)) S2 = .ok (.d (.tuple ds)) S2 := by
        show okW S2 (atA (rows.map W.d) r2) = _
        rw [atA_nat g2 (by simp; omega), List.getElem?_map, List.getElem?_eq_getElem hlt, hds]
        rfl
      have b1 : binM false .add (.d (.list sub1)) (.ref S3.n) S4 = .ok (.ref (S3.n + 1)) S5 := by
        have o4 : S4.o S3.n = some (.lst [w]) := push_same _
        simp only [binM, isScr, seqOf, o4, Bool.or_self]
        show mkL false (sub1.map W.d ++ [w]) S4 = _
        unfold mkL
        rw [if_pos (small_ok (by simp; omega))]
        rfl
      have b2 : binM false .add (.ref (S3.n + 1)) (.d (.list sub2)) S5 = .ok (.ref (S3.n + 2)) S6 := by
        have o5 : S5.o (S3.n + 1) = some (.lst (sub1.map W.d ++ [w])) := push_same (S := S4) _
        simp only [binM, isScr, seqOf, o5, Bool.or_self]
        show mkL false (sub1.map W.d ++ [w] ++ sub2.map W.d) S5 = _
        unfold mkL
        rw [if_pos (small_ok (by simp; omega))]
        rfl
      refine ⟨.ref (S3.n + 2), S6, ?_, l1.trans (l2.trans (l3.trans l6)), .inr (.inl ⟨S3.n + 2, _, rfl, Nat.lt_succ_self _, push_same (S := S5) _, by simp; omega, ?_⟩)⟩
      · have mk1 : mkL false [w] S3 = .ok (.ref S3.n) S4 := if_pos (by simp [sizeLine])
        simp [runDef, d__law_thing, startE, exSs, exS, evE, evEs, evO, evT, bind_ok, scalD, e1, bindPt, c_eqI, c_gt, truB, h0, h9', eqn, hne, h10, len_rows, e2, s1, rix, e3, mk1, b1, b_add, s2, b2, show mkL true [] S1 = .ok (.d (.list [])) S1 from rfl]
      · have it : ∀ x ∈ rows, ∀ S, It2 S (.d x) := fun x h S => .inl (.inl ⟨x, rfl, hx x h⟩)
        intro u hu
        simp only [List.mem_append, List.mem_map, List.mem_singleton] at hu
        rcases hu with (⟨x, h, rfl⟩ | rfl) | ⟨x, h, rfl⟩
        · exact it x (m1 x h) _
        · rcases q3 with h | ⟨us, a, b, h⟩
          · exact .inl (h.later l6 l3.bag)
          · exact .inr ⟨us, a, b, fun v hv => (h v hv).later l6 l3.bag⟩
        · exact it x (m2 x h) _
end K47

namespace K47
open PySem L2 Py
theorem typed_d {S : Py.St} {x : PyData} (h : x.canLay0 = true) : Typed S (.d x) := by
  cases x <;> first | exact ⟨_, rfl⟩ | cases h
theorem typed_dict {S : Py.St} {j : Nat} {kvs : List (Key × W)} (h : S.o j = some (.dK kvs)) : Typed S (.ref j) := by
  refine ⟨("str" == "dict"), ?_⟩
  show (match S.o j with
    | some (.lst _) => some ("str" == "list")
    | some (.dK _) | some (.dT _) => some ("str" == "dict")
    | _ => none) = _
  rw [h]
theorem it1_typed {n : Nat} {S : Py.St} {w : W} (h : It1 n S w) : Typed S w := by
  rcases h with ⟨x, rfl, h, _⟩ | ⟨j, rfl, _, h⟩
  · exact typed_d h
  · exact typed_dict h
theorem shaped_ok {n : Nat} {x : PyData} (h : okX n x) (hn : n ≤ 64) : SeqAt.shaped x = true := by
  unfold SeqAt.shaped
  rw [h.1]
  simp
  have := h.2
  omega
theorem canAll_mem : ∀ {ds : List PyData}, PyData.canLayAll0 ds = true → ∀ x ∈ ds, x.canLay0 = true
  | y :: r, h, x, hx => by
    simp only [PyData.canLayAll0, Bool.and_eq_true] at h
    rcases List.mem_cons.mp hx with rfl | hx
    · exact h.1
    · exact canAll_mem h.2 x hx
theorem depth_mem : ∀ {ds : List PyData} {n : Nat}, PyData.depthAll ds ≤ n → ∀ x ∈ ds, x.depth ≤ n
  | y :: r, n, h, x, hx => by
    simp only [PyData.depthAll] at h
    rcases List.mem_cons.mp hx with rfl | hx
    · omega
    · exact depth_mem (by omega) x hx
theorem ix_map (ds : List PyData) (S : Py.St) (i : Int) : ixM (.d (.tuple ds)) (.d (.int i)) S = okW S (atA (ds.map W.d) i) := rfl
theorem tupX_d {S : Py.St} {ds : List PyData} (h : okX 64 (.tuple ds)) : TupX S (.d (.tuple ds)) (ds.map W.d) := by
  have hc : PyData.canLayAll0 ds = true := by simpa [PyData.canLay0] using h.1
  refine ⟨⟨fun t => rfl, ?_, fun i => ix_map ds S i, fun x hx => ?_⟩, ?_, rfl⟩
  · show ((seqOf S (.d (.tuple ds))).map fun p => (p.2.length : Int)) = _
    simp [seqOf]
  · obtain ⟨y, hy, rfl⟩ := List.mem_map.mp hx
    exact typed_d (canAll_mem hc y hy)
  · have e0 : eqM0 S (.d (.tuple ds)) (.d (.tuple [])) = some (ds.map W.d).isEmpty := by
      show (if scal2 (.tuple ds) (.tuple []) || (SeqAt.shaped (.tuple ds) && SeqAt.shaped (.tuple [])) then some (PyData.eqv (.tuple ds) (.tuple [])) else none) = _
      rw [shaped_ok h (by decide), show SeqAt.shaped (.tuple []) = true by decide +kernel]
      cases ds <;> rfl
    unfold eqM
    rw [e0]
theorem item_d {S : Py.St} {x : PyData} (h : okX 64 x) : Item S (.d x) := by
  cases x with
  | tuple ds => exact .inr ⟨_, tupX_d h⟩
  | dict _ => exact absurd h.1 (by simp [PyData.canLay0])
  | _ => exact .inl ⟨rfl, rfl⟩
theorem item_2 {S : Py.St} {w : W} (h : It2 S w) : Item S w := by
  rcases h with h | ⟨us, h0, rfl, h⟩
  · rcases h with ⟨x, rfl, h⟩ | ⟨j, rfl, _, h⟩
    · exact item_d (h.mono (by decide))
    · refine .inl ⟨?_, rfl⟩
      show (match S.o j with
        | some (.lst _) => some ("tuple" == "list")
        | some (.dK _) | some (.dT _) => some ("tuple" == "dict")
        | _ => none) = _
      rw [h]
      rfl
  · refine .inr ⟨us, ⟨fun t => rfl, rfl, fun i => rfl, fun x hx => it1_typed (h x hx)⟩, ?_, rfl⟩
    cases us with
    | nil => exact absurd rfl h0
    | cons u us =>
      cases e : eqM0 S (.tup (u :: us)) (.d (.tuple [])) with
      | none =>
        unfold eqM
        rw [e]
        rfl
      | some b =>
        unfold eqM
        rw [e]
        unfold eqM0 at e
        split at e
        · rename_i a b' e1 e2
          unfold toD at e1 e2
          cases e2
          obtain ⟨ds, ed, rfl⟩ := Option.map_eq_some_iff.mp e1
          have hd : ds ≠ [] := by
            unfold mapO at ed
            split at ed
            · cases ed
              simp
            · cases ed
          split at e
          · cases e
            cases ds with
            | nil => exact absurd rfl hd
            | cons _ _ => rfl
          · cases e
        · cases e
mutual
theorem eqv_self : ∀ {x : PyData}, x.canLay0 = true → PyData.eqv x x = true
  | .none, _ => rfl
  | .bool _, _ => by simp [PyData.eqv]
  | .int _, _ => by simp [PyData.eqv]
  | .str _, _ => by simp [PyData.eqv]
  | .list xs, h => by
    simp only [PyData.eqv]
    exact eqvs_self (by simpa [PyData.canLay0] using h)
  | .tuple xs, h => by
    simp only [PyData.eqv]
    exact eqvs_self (by simpa [PyData.canLay0] using h)
  | .dict _, h => by simp [PyData.canLay0] at h
theorem eqvs_self : ∀ {xs : List PyData}, PyData.canLayAll0 xs = true → PyData.eqvAll xs xs = true
  | [], _ => rfl
  | x :: xs, h => by
    simp only [PyData.canLayAll0, Bool.and_eq_true] at h
    simp only [PyData.eqvAll, eqv_self h.1, eqvs_self h.2, Bool.and_self]
end
theorem all2_self {F : W → W → Bool} : ∀ {ws : List W}, (∀ w ∈ ws, F w w = true) → all2 F ws ws = true
  | [], _ => rfl
  | w :: r, h => by
    show (F w w && all2 F r r) = true
    rw [h w (by simp), all2_self fun u hu => h u (List.mem_cons_of_mem _ hu)]
    rfl
theorem eqW_1 {n : Nat} {S : Py.St} {w : W} (h : It1 n S w) (hn : n ≤ 64) (k : Nat) : eqW k w w = true := by
  rcases h with ⟨x, rfl, h⟩ | ⟨j, rfl, _, _⟩
  · have : eqW k (.d x) (.d x) = (SeqAt.shaped x && SeqAt.shaped x && PyData.eqv x x) := by cases k <;> rfl
    rw [this, shaped_ok h hn, eqv_self h.1]
    rfl
  · have : eqW k (.ref j) (.ref j) = (j == j) := by cases k <;> rfl
    rw [this]
    simp
theorem eqW_2 {S : Py.St} {w : W} (h : It2 S w) : eqW 8 w w = true := by
  rcases h with h | ⟨us, _, rfl, h⟩
  · exact eqW_1 h (by decide) 8
  · exact all2_self fun u hu => eqW_1 (h u hu) (by decide) 7
end K47

namespace K47
open PySem L2 Py
theorem c_law (k : Nat) : (cfgN md.prog (k + 1)).call "law" = fun ws S => runDef (cfgN md.prog k) d_law ws S := rfl
theorem c_cell (k : Nat) : (cfgN md.prog (k + 1)).call "_law_cell_at" = fun ws S => runDef (cfgN md.prog k) d__law_cell_at ws S := rfl
theorem cell_ok (k : Nat) (S : Py.St) (ns : List Int) : ∃ z, (cfgN md.prog (k + 1)).call "_law_cell_at" [.scr ns, .d (.int 0)] S = .ok (.d (.int z)) S := by
  rw [c_cell]
  have hl : biM true .len [.scr ns] S = .ok (.d (.int (ns.length : Int))) S := by
    show okW S ((lenM S (.scr ns)).map wi) = _
    have : lenM S (.scr ns) = some (ns.length : Int) := by
      show ((seqOf S (.scr ns)).map fun p => (p.2.length : Int)) = _
      simp [seqOf]
    rw [this]
    rfl
  cases ns with
  | nil =>
    refine ⟨0, ?_⟩
    simp [runDef, d__law_cell_at, startE, exSs, exS, evE, evEs, evT, bind_ok, scalD, hl, c_lt, truB]
  | cons n ns =>
    have hx : ixM (.scr (n :: ns)) (.d (.int 0)) S = .ok (.d (.int n)) S := by
      show okW S (atA ((n :: ns).map fun i => W.d (.int i)) 0) = _
      rw [atA_nat (by decide) (by simp)]
      rfl
    have h0 : (0 : Int) < (ns.length : Int) + 1 := by omega
    refine ⟨n, ?_⟩
    simp [runDef, d__law_cell_at, startE, exSs, exS, evE, evEs, evT, bind_ok, scalD, hl, c_lt, truB, hx, h0]
theorem mapO_d (S : Py.St) (k : Nat) : ∀ ds : List PyData, mapO (toD S k) (ds.map W.d) = some ds
  | [] => rfl
  | x :: r => by
    have e : toD S k (.d x) = some x := by cases k <;> rfl
    show mapO (toD S k) (W.d x :: r.map W.d) = _
    unfold mapO
    rw [e, mapO_d S k r]
/-- the law's lists stay as they are -/
theorem same_refs {S : Py.St} {i j : Nat} {ws : List W} (hi : S.o i = some (.lst ws)) (hj : S.o j = some (.lst ws)) (h : ∀ u ∈ ws, It2 S u) : cmpM .ne (.ref i) (.ref j) S = .ok (.d (.bool false)) S := by
  have e : eqM S (.ref i) (.ref j) = some true := by
    have top : topEq S (.ref i) (.ref j) = true := by
      show (match S.o i, S.o j with
        | some (.lst xs), some (.lst ys) => all2 (eqW 8) xs ys
        | some (.dK ks), some (.dK _) => i == j && decide (ks.map (·.1)).Nodup
        | _, _ => false) = true
      rw [hi, hj]
      exact all2_self fun u hu => eqW_2 (h u hu)
    have ti : toD S 8 (.ref i) = (mapO (toD S 7) ws).map PyData.list := by
      show (match S.o i with
        | some (.lst ws) => (mapO (toD S 7) ws).map PyData.list
        | _ => none) = _
      rw [hi]
    have tj : toD S 8 (.ref j) = (mapO (toD S 7) ws).map PyData.list := by
      show (match S.o j with
        | some (.lst ws) => (mapO (toD S 7) ws).map PyData.list
        | _ => none) = _
      rw [hj]
    unfold eqM eqM0
    rw [ti, tj]
    cases mapO (toD S 7) ws with
    | none => simp [top]
    | some ds =>
      by_cases hs : SeqAt.shaped (.list ds) = true
      · have := eqv_self (SeqAt.canLay_of_shaped hs)
        simp [hs, eqv_self (x := .list ds) (by unfold SeqAt.shaped at hs; simp at hs; exact hs.1)]
      · simp [scal2, hs, top]
  show okB S ((eqM S _ _).map _) = _
  rw [e]
  rfl
theorem same_d {S : Py.St} {x : PyData} (h : okX 60 x) : cmpM .ne (.d x) (.d x) S = .ok (.d (.bool false)) S := by
  have e0 : eqM0 S (.d x) (.d x) = some true := by
    show (if scal2 x x || (SeqAt.shaped x && SeqAt.shaped x) then some (PyData.eqv x x) else none) = _
    rw [shaped_ok h (by decide), eqv_self h.1]
    simp
  have e : eqM S (.d x) (.d x) = some true := by
    unfold eqM
    rw [e0]
  show okB S ((eqM S _ _).map _) = _
  rw [e]
  rfl
theorem same_dl {S : Py.St} {ds : List PyData} {j : Nat} (h : okX 60 (.list ds)) (hj : S.o j = some (.lst (ds.map W.d))) : cmpM .ne (.d (.list ds)) (.ref j) S = .ok (.d (.bool false)) S := by
  have tj : toD S 8 (.ref j) = some (.list ds) := by
    show (match S.o j with
      | some (.lst ws) => (mapO (toD S 7) ws).map PyData.list
      | _ => none) = _
    rw [hj]
    show (mapO (toD S 7) (ds.map W.d)).map PyData.list = _
    rw [mapO_d]
    rfl
  have e0 : eqM0 S (.d (.list ds)) (.ref j) = some true := by
    unfold eqM0
    rw [tj]
    show (if scal2 (.list ds) (.list ds) || (SeqAt.shaped (.list ds) && SeqAt.shaped (.list ds)) then some (PyData.eqv (.list ds) (.list ds)) else none) = _
    rw [shaped_ok h (by decide), eqv_self h.1]
    simp
  have e : eqM S (.d (.list ds)) (.ref j) = some true := by
    unfold eqM
    rw [e0]
  show okB S ((eqM S _ _).map _) = _
  rw [e]
  rfl
theorem same_dict {S : Py.St} {j : Nat} (h : S.o j = some (.dK kv0)) : cmpM .ne (.ref j) (.ref j) S = .ok (.d (.bool false)) S := by
  have e : eqM S (.ref j) (.ref j) = some true := by
    have t : toD S 8 (.ref j) = none := by
      show (match S.o j with
        | some (.lst ws) => (mapO (toD S 7) ws).map PyData.list
        | _ => none) = _
      rw [h]
    have top : topEq S (.ref j) (.ref j) = true := by
      show (match S.o j, S.o j with
        | some (.lst xs), some (.lst ys) => all2 (eqW 8) xs ys
        | some (.dK ks), some (.dK _) => j == j && decide (ks.map (·.1)).Nodup
        | _, _ => false) = true
      rw [h]
      show (j == j && decide (kv0.map (·.1)).Nodup) = true
      rw [show decide (kv0.map (·.1)).Nodup = true by decide]
      simp
    unfold eqM eqM0
    rw [t]
    simp [top]
  show okB S ((eqM S _ _).map _) = _
  rw [e]
  rfl
theorem listW_d {S : Py.St} {ds : List PyData} (h : okX 50 (.list ds)) : ListW S (.d (.list ds)) (ds.map W.d) := by
  have hc : PyData.canLayAll0 ds = true := by simpa [PyData.canLay0] using h.1
  have hd : PyData.depthAll ds ≤ 50 := by
    have := h.2
    simp only [PyData.depth] at this
    omega
  refine ⟨fun t => rfl, ?_, rfl, fun x hx => ?_⟩
  · show ((seqOf S (.d (.list ds))).map fun p => (p.2.length : Int)) = _
    simp [seqOf]
  · obtain ⟨y, hy, rfl⟩ := List.mem_map.mp hx
    exact item_d ⟨canAll_mem hc y hy, Nat.le_trans (depth_mem hd y hy) (by decide)⟩
theorem listW_r {S : Py.St} {j : Nat} {ws : List W} (h : S.o j = some (.lst ws)) (hi : ∀ u ∈ ws, Item S u) : ListW S (.ref j) ws := by
  refine ⟨fun t => ?_, ?_, ?_, hi⟩
  · show (match S.o j with
      | some (.lst _) => some (t == "list")
      | some (.dK _) | some (.dT _) => some (t == "dict")
      | _ => none) = _
    rw [h]
  · show (match S.o j with
      | some (.lst ws) => some (ws.length : Int)
      | some (.dK kvs) | some (.fK kvs) => some kvs.length
      | _ => none) = _
    rw [h]
  · show (match S.o j with
      | some (.lst ws) => some (true, ws)
      | _ => none) = _
    rw [h]
theorem It2.push {S : Py.St} {o : O} {w : W} (h : It2 S w) : It2 (S.push o) w := by
  have k : ∀ {n w}, It1 n S w → It1 n (S.push o) w := fun {n w} h => by
    rcases h with h | ⟨j, a, b, c⟩
    · exact .inl h
    · exact .inr ⟨j, a, Nat.lt_succ_of_lt b, by rw [push_ne _ (Nat.ne_of_lt b)]; exact c⟩
  rcases h with h | ⟨us, a, b, c⟩
  · exact .inl (k h)
  · exact .inr ⟨us, a, b, fun u hu => k (c u hu)⟩
/-- the end of the law: the reading of the thing and of its copy are one -/
theorem end_ok (k : Nat) {S : Py.St} {w : W} (h : Thing S w) : ∃ b S1 v, ((isTy S w "list" = some true ∧ biM false .list_ [w] S = .ok v S1) ∨ (isTy S w "list" = some false ∧ v = w ∧ S1 = S)) ∧
    (cfgN md.prog (k + 3)).call "is_program" [w] S1 = .ok (.d (.bool b)) S1 ∧ (cfgN md.prog (k + 3)).call "_law_right" [v] S1 = .ok (.d (.bool b)) S1 ∧ cmpM .ne w v S1 = .ok (.d (.bool false)) S1 := by
  have lst : ∀ ws, ListW S w ws → ws.length ≤ 1000000 → (∀ S1, S1 = S.push (.lst ws) → ListW S1 w ws ∧ ListW S1 (.ref S.n) ws ∧ cmpM .ne w (.ref S.n) S1 = .ok (.d (.bool false)) S1) → ∃ b S1 v, ((isTy S w "list" = some true ∧ biM false .list_ [w] S = .ok v S1) ∨ (isTy S w "list" = some false ∧ v = w ∧ S1 = S)) ∧
      (cfgN md.prog (k + 3)).call "is_program" [w] S1 = .ok (.d (.bool b)) S1 ∧ (cfgN md.prog (k + 3)).call "_law_right" [v] S1 = .ok (.d (.bool b)) S1 ∧ cmpM .ne w v S1 = .ok (.d (.bool false)) S1 := fun ws hw hl h => by
    obtain ⟨a, b, c⟩ := h _ rfl
    refine ⟨_, S.push (.lst ws), .ref S.n, .inl ⟨hw.ty "list", ?_⟩, prog_ok k a, right_ok (k + 2) b, c⟩
    show (match seqOf S w with
      | some (_, ws) => mkL false ws S
      | none => .fail) = _
    rw [hw.seq]
    exact if_pos (Nat.le_trans hl (by decide))
  rcases h with ⟨x, rfl, hx, hs⟩ | ⟨j, ws, rfl, hj, hs, hl, hi⟩ | ⟨j, rfl, hj, hs⟩
  · cases x with
    | list ds =>
      have hs : ds.length ≤ 1000 := of_decide_eq_true hs
      have hw : ∀ S, ListW S (.d (.list ds)) (ds.map W.d) := fun S => listW_d (hx.mono (by decide))
      refine lst _ (hw S) (by rw [List.length_map]; omega) fun S1 e => ?_
      subst e
      exact ⟨hw _, listW_r (push_same _) (hw (S.push (.lst (ds.map W.d)))).all, same_dl (hx.mono (by decide)) (push_same _)⟩
    | dict _ => exact absurd hx.1 (by simp [PyData.canLay0])
    | _ => exact ⟨false, S, _, .inr ⟨rfl, rfl, rfl⟩, prog_not (k + 2) rfl, right_not (k + 2) rfl, same_d (hx.mono (by decide))⟩
  · refine lst ws (listW_r hs fun u hu => item_2 (hi u hu)) (by omega) fun S1 e => ?_
    subst e
    have s1 : (S.push (.lst ws)).o j = some (.lst ws) := by rw [push_ne _ (Nat.ne_of_lt hj)]; exact hs
    have hi2 : ∀ u ∈ ws, It2 (S.push (.lst ws)) u := fun u hu => (hi u hu).push
    exact ⟨listW_r s1 fun u hu => item_2 (hi2 u hu), listW_r (push_same _) fun u hu => item_2 (hi2 u hu), same_refs s1 (push_same _) hi2⟩
  · have t : isTy S (.ref j) "list" = some false := by
      show (match S.o j with
        | some (.lst _) => some ("list" == "list")
        | some (.dK _) | some (.dT _) => some ("list" == "dict")
        | _ => none) = _
      rw [hs]
      rfl
    exact ⟨false, S, _, .inr ⟨t, rfl, rfl⟩, prog_not (k + 2) t, right_not (k + 2) t, same_dict hs⟩
end K47

namespace K47
open PySem L2 Py
theorem cells_ok (S : Py.St) (ns : List Int) (h : ns.length ≤ 63) : ∃ cs : List Int, slM true (.scr ns) (some 1) (some 61) S = .ok (.d (.list (cs.map .int))) S ∧ cs.length ≤ 63 := by
  let a := HT.sIx ns.length 0 (some 1)
  let b := HT.sIx ns.length ns.length (some 61) - HT.sIx ns.length 0 (some 1)
  have e : cutA (ns.map fun i => W.d (.int i)) (some 1) (some 61) = (((ns.drop a).take b).map PyData.int).map W.d := by
    unfold cutA
    simp [List.map_drop, List.map_take]
    rfl
  have hl : ((ns.drop a).take b).length ≤ 63 := by
    simp
    omega
  refine ⟨(ns.drop a).take b, ?_, hl⟩
  show mkL true (cutA (ns.map fun i => W.d (.int i)) (some 1) (some 61)) S = _
  rw [e]
  unfold mkL
  rw [if_pos (by rw [List.length_map, List.length_map]; exact small_ok (by omega)), if_pos rfl, allD_map]
theorem rowL_gr {m : Int} {ds : List PyData} (h : gr m ds) : rowL m (ds.map W.d) = true := by
  unfold gr at h
  split at h
  · simp [rowL, h]
  · rcases h with h | ⟨h, h2⟩ | ⟨h, h2, h3⟩
    · simp [rowL, h]
    · simp [rowL, h, h2]
    · simp [rowL, h, h2, h3]
  · exact h.elim
theorem law_ok (S : Py.St) (ns : List Int) (h : ns.length ≤ 63) : ∃ S', (cfgN md.prog 20).call "law" [.scr ns] S = .ok (.d (.bool true)) S' := by
  rw [c_law 19]
  obtain ⟨cs, e1, l1⟩ := cells_ok S ns h
  -- the rows
  have hit : itM .seq [.d (.list (cs.map .int))] S = .ok ⟨(cs.map PyData.int).map W.d, none⟩ S := rfl
  obtain ⟨rows, S2, q1, _, q3, q4⟩ := comp_data (own := [6]) (p := .v 6) (V := fun _ => True) (P := fun x => ∃ ds, x = .tuple ds ∧ gr cs.length ds) (c := cfgN md.prog 19) (e := [some (.scr ns), some (.d (.list (cs.map .int))), none, none, none, none, none])
    (es := [(.v 1)]) (el := (.call "_law_row" [(.call "_law_bag" [(.v 6)] []), (.bi true .len [(.v 1)])] [])) (S := S) (S1 := S) (ws := [.d (.list (cs.map .int))]) (by simp [evE, evEs, bind_ok]) hit rfl (by simp; exact small_ok (by omega)) True.intro (by
      intro w hw S3 _
      obtain ⟨x, hx, rfl⟩ := List.mem_map.mp hw
      obtain ⟨z, _, rfl⟩ := List.mem_map.mp hx
      obtain ⟨a, b, eb⟩ := bag_ok 18 S3 z
      obtain ⟨ds, a', b', c', er, hg⟩ := row_ok 16 (S3.push (bagO a b 0)) S3.n a b 0 (cs.length : Int) (by omega) (by omega)
      rw [set_self (push_same _)] at er
      refine ⟨[some (.scr ns), some (.d (.list (cs.map .int))), none, none, none, none, some (.d (.int z))], .tuple ds, (S3.push (bagO a b 0)).set S3.n (bagO a' b' c'), rfl, ?_, True.intro, ds, rfl, hg⟩
      have el := len_rows (S3.push (bagO a b 0)) (cs.map PyData.int)
      rw [List.length_map] at el
      have eb : (cfgN md.prog 19).call "_law_bag" [.d (.int z)] S3 = .ok (.ref S3.n) (S3.push (bagO a b 0)) := eb
      have er : (cfgN md.prog 19).call "_law_row" [.ref S3.n, .d (.int (cs.length : Int))] (S3.push (bagO a b 0)) = .ok (.d (.tuple ds)) ((S3.push (bagO a b 0)).set S3.n (bagO a' b' c')) := er
      simp [evE, evEs, bind_ok, eb, el, er])
  have q3 : rows.length = cs.length := by rw [q3]; simp
  have hr : RowsOk rows := ⟨by omega, fun x hx => by
    obtain ⟨ds, a, b⟩ := q4 x hx
    exact ⟨ds, a, by rw [q3]; exact b⟩⟩
  -- the thing
  obtain ⟨z, ez⟩ := cell_ok 18 S2 ns
  obtain ⟨a, b, eb⟩ := bag_ok 18 S2 z
  obtain ⟨w, S3, et, _, ht⟩ := thing_ok 15 (S := S2.push (bagO a b 0)) (i := S2.n) (Nat.lt_succ_self _) ⟨a, b, 0, push_same _⟩ hr
  obtain ⟨bb, S4, v, hv, ep, erg, ene⟩ := end_ok 16 ht
  have ez : (cfgN md.prog 19).call "_law_cell_at" [.scr ns, .d (.int 0)] S2 = .ok (.d (.int z)) S2 := ez
  have eb : (cfgN md.prog 19).call "_law_bag" [.d (.int z)] S2 = .ok (.ref S2.n) (S2.push (bagO a b 0)) := eb
  have et : (cfgN md.prog 19).call "_law_thing" [.ref S2.n, .d (.list rows)] (S2.push (bagO a b 0)) = .ok w S3 := et
  have ep : (cfgN md.prog 19).call "is_program" [w] S4 = .ok (.d (.bool bb)) S4 := ep
  have erg : (cfgN md.prog 19).call "_law_right" [v] S4 = .ok (.d (.bool bb)) S4 := erg
  have hx : ∀ x ∈ rows, okX 20 x := fun x hx => by
    obtain ⟨ds, rfl, hg⟩ := hr.all x hx
    exact row_okX hg
  have lw : ListW S4 (.d (.list rows)) (rows.map W.d) := listW_d ((okX_list hx).1.mono (by decide))
  have er0 := prog_ok 16 lw
  have all : (rows.map W.d).all (rowW ((rows.map W.d).length)) = true := by
    rw [List.all_eq_true]
    intro y hy
    obtain ⟨x, hx, rfl⟩ := List.mem_map.mp hy
    obtain ⟨ds, rfl, hg⟩ := hr.all x hx
    rw [List.length_map]
    exact rowL_gr hg
  rw [all] at er0
  have er0 : (cfgN md.prog 19).call "is_program" [.d (.list rows)] S4 = .ok (.d (.bool true)) S4 := er0
  refine ⟨S4, run_ret rfl ?_⟩
  show exSs (cfgN md.prog 19) [_, _, _, _, _, _, _, _] _ S = _
  have c1 : evE (cfgN md.prog 19) [some (.scr ns), none, none, none, none, none, none] (.sl true (.v 0) (some (.k (.int 1))) (some (.k (.int 61)))) S = .ok (.d (.list (cs.map .int))) S := by
    simp [evE, evO, bind_ok, scalD, e1]
  have c3 : evE (cfgN md.prog 19) [some (.scr ns), some (.d (.list (cs.map .int))), some (.d (.list rows)), none, none, none, none] (.call "_law_thing" [(.call "_law_bag" [(.call "_law_cell_at" [(.v 0), (.k (.int 0))] [])] []), (.v 2)] []) S2 = .ok w S3 := by
    simp [evE, evEs, bind_ok, scalD, ez, eb, et]
  have c4 : evE (cfgN md.prog 19) [some (.scr ns), some (.d (.list (cs.map .int))), some (.d (.list rows)), some w, none, none, none] (.v 3) S3 = .ok w S3 := by simp [evE]
  have c5 : exS (cfgN md.prog 19) (.ite (.e (.isin (.v 3) ["list"])) [.asg (.v 4) (.bi false .list_ [(.v 3)])] []) [some (.scr ns), some (.d (.list (cs.map .int))), some (.d (.list rows)), some w, some w, none, none] S3 = .ok (.nx [some (.scr ns), some (.d (.list (cs.map .int))), some (.d (.list rows)), some w, some v, none, none]) S4 := by
    rcases hv with ⟨t, e⟩ | ⟨t, rfl, rfl⟩
    · simp [exSs, exS, evE, evEs, evT, bind_ok, isinM, tyNames, t, okB, truB, e, bindPt]
    · simp [exSs, exS, evE, evEs, evT, bind_ok, isinM, tyNames, t, okB, truB]
  have c6 : evE (cfgN md.prog 19) [some (.scr ns), some (.d (.list (cs.map .int))), some (.d (.list rows)), some w, some v, none, none] (.call "is_program" [(.v 3)] []) S4 = .ok (.d (.bool bb)) S4 := by
    simp [evE, evEs, bind_ok, ep]
  have c7 : evT (cfgN md.prog 19) [some (.scr ns), some (.d (.list (cs.map .int))), some (.d (.list rows)), some w, some v, some (.d (.bool bb)), none] (.or (.not (.e (.isin (.v 5) ["bool"]))) (.or (.e (.cmp .ne (.v 5) (.call "_law_right" [(.v 4)] []))) (.e (.cmp .ne (.v 3) (.v 4))))) S4 = .ok false S4 := by
    simp [evT, evE, evEs, bind_ok, isinM, tyNames, isTy, okB, truB, erg, c_neB, ene]
  refine (x_nx (x_asg c1)).trans ((x_nx (x_asg q1)).trans ((x_nx (x_asg c3)).trans ((x_nx (x_asg c4)).trans ((x_nx c5).trans ((x_nx (x_asg c6)).trans ((x_nx (x_skip c7)).trans (x_ret (x_retE ?_))))))))
  have ci : cmpM .isN (.d (.bool true)) (.d (.bool true)) S4 = .ok (.d (.bool true)) S4 := rfl
  simp [evE, evEs, bind_ok, scalD, er0, ci]
theorem plain (ns : List Int) (h : ns.length ≤ 63) (hb : ∀ z ∈ ns, Builtin.Int.intBits z ≤ 1048576) : ((cfgN md.prog 20).call "law" [.scr ns] Py.St.nil).post (fun w _ => w = .d (.bool true)) fun _ _ => False := by
  obtain ⟨S', e⟩ := law_ok Py.St.nil ns h
  rw [e]
  rfl
end K47

namespace K47
open PySem PySem.Spec PyProof.Rows L2 Py
theorem run (w : World) : HandSHeadRun.RunEq R (PySem.W.view R.prog [19]) hk ob 3000 loose w := by
  intro os
  kernel_rfl
end K47
open PySem PySem.W PySem.Calls PyProof.Rows
theorem PySem.Challenge.cw_manygoings_k47_what_is_a_program_holds : PySem.Challenge.rw_manygoings_k47_what_is_a_program.Holds := by
  w_on; o_law
  refine HandSHeadRun.head_any (r := OpenLaw.row PySem.Challenge.rw_manygoings_k47_what_is_a_program) (q := view (OpenLaw.row PySem.Challenge.rw_manygoings_k47_what_is_a_program).prog [19]) (H := K47.hk) (ob := K47.ob) (M := 3000) (loose := K47.loose)
    (d := HandSHeadRun.topDef (OpenLaw.row PySem.Challenge.rw_manygoings_k47_what_is_a_program).prog 19) (kwd := []) K47.ob_eq (by kernel_rfl) (fun s => by kernel_rfl) K47.run (by kernel_rfl) (by kernel_rfl) (by kernel_rfl) (by rfl) (by first | assumption | decide +kernel) (by decide +kernel) ⟨rfl, rfl, rfl, rfl, rfl, by decide +kernel⟩ ?hw ?hc
  case hw => w_witness2
  case hc =>
    refine Py.walk_ours (l := PySem.Challenge.rw_manygoings_k47_what_is_a_program) (2 * 20) rfl (by kernel_rfl) ⟨rfl, by decide, by decide⟩ ?F
    intro w mg fa h Y G hmg
    obtain ⟨K, KX, c⟩ := Y
    have hmg : mg (PySem.Str.ofString "law") = some (.ref fa) := by
      have e : (HandSHeadRun.topDef (OpenLaw.row PySem.Challenge.rw_manygoings_k47_what_is_a_program).prog 19).name = PySem.Str.ofString "law" := by kernel_rfl
      rw [← e]
      exact hmg
    obtain ⟨fd, sp, x, b, p, F⟩ := Py.facts_ours (M := K47.md) (P0 := PySem.Challenge.rw_manygoings_k47_what_is_a_program.prog) (w := w) (t := K47.t_law) 20 KX G c.t.d c.more K47.ok K47.hd K47.hb rfl rfl rfl rfl hmg rfl K47.plain
    exact ⟨K, fd, sp, x, KX, b, p, F⟩
