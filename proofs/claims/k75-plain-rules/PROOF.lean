import PyProof.Rows.All
import Wide.All
import OpenK.AllK
import Wide.FinOn
import HandS.ForMost
import HandS.Exc
import HandS.TryOnly
import HandS.ExcOwn
import HandS.WordsExc
import PyProof.RulesMatch
import HandS.Strs
import HandS.TupAny
import HandS.WideBits
import HandS.IsInst
import HandS.Steps
import HandS.TupMul
import HandS.Dict
import HandS.Star
import HandS.ExcField
import HandS.Style
import HandS.Iter
import HandS.Walk
import HandS.Zip
import KE.GoesEnum
import KE.KDictZip
import HandS.Comp
import HandS.DictComp
import HandS.CallSlots
import HandS.ForSpec
import KE.OsGo
import HandS.Head0
import HandS.Head1
import HandS.Head2
import HandS.HeadEnd
import HandS.HeadHook1
import HandS.HeadHook2
import KE.KStateDown
import Lean
import HandS.More
import HandS.Defaults
import PySem.Challenge.RW_chanceends_k75_plain_rules
set_option Elab.async false
set_option linter.all false
set_option maxRecDepth 100000
section
namespace IL
open PySem
inductive D where
  | non | bl (b : Bool) | int (i : Int) | str (x : Str)
  | tup (xs : List D) | lst (xs : List D)
  | obj (c : Str) (vs : List D)
  deriving Inhabited
/-- a field of an object in a slot -/
inductive Fld where
  | sh (d : D) | ow (xs : List D)
/-- what a name of a def holds: nothing; data; a list of its own (pinned: the caller's); an object of its own; a caught error -/
inductive Slot where
  | un | sh (d : D) | ow (p : Bool) (xs : List D) | ob (p : Bool) (c : Str) (fs : List (Str × Fld)) | exn (c : Str) (x : Option D)
  deriving Inhabited
abbrev Sg := List Slot
inductive R (α : Type) where
  | ok (a : α) (s : Sg) | ex (c : Str) (x : Option D) (s : Sg) | bad
def R.bind {α β : Type} : R α → (α → Sg → R β) → R β
  | .ok a s, f => f a s
  | .ex c x s, _ => .ex c x s
  | .bad, _ => .bad
def R.of {α : Type} : Option α → Sg → R α
  | some a, s => .ok a s
  | none, _ => .bad
@[simp] theorem R.bind_ok {α β : Type} (a : α) (s : Sg) (f : α → Sg → R β) : (R.ok a s).bind f = f a s := rfl
@[simp] theorem R.bind_ex {α β : Type} (c : Str) (x : Option D) (s : Sg) (f : α → Sg → R β) : (R.ex c x s : R α).bind f = .ex c x s := rfl
@[simp] theorem R.bind_bad {α β : Type} (f : α → Sg → R β) : (R.bad : R α).bind f = .bad := rfl
@[simp] theorem R.of_some {α : Type} (a : α) (s : Sg) : R.of (some a) s = .ok a s := rfl
@[simp] theorem R.of_none {α : Type} (s : Sg) : R.of (none : Option α) s = .bad := rfl
/-- the field of an error's class -/
def fldOf (c : Str) : Option Str :=
  if c == ("InvalidFormula" : Str) || c == ("InvalidCase" : Str) || c == ("InvalidNumber" : Str) || c == ("InvalidCertificate" : Str) || c == ("NothingToUndo" : Str) || c == ("NothingToRedo" : Str) || c == ("InvalidPlan" : Str) || c == ("InvalidDepth" : Str) || c == ("ChanceError" : Str) then none
  else if c == ("InvalidProgram" : Str) then some "part" else if c == ("NoSuchFact" : Str) then some "index" else if c == ("NoOffer" : Str) then some "number" else if c == ("LimitExceeded" : Str) then some "limit"
  else if c == ("Inconsistent" : Str) || c == ("Never" : Str) then some "certificate" else some "at"
/-- a call's end -/
inductive CR where
  | ret (d : D) (fr : Bool) (io : Slot) | ex (c : Str) (x : Option D) (io : Slot) | bad
abbrev Call := Str → Slot → List D → CR
/-- the fields of the program's own classes -/
def clsF (c : Str) : List Str :=
  if c == ("Tableau" : Str) then ["width", "divisor", "scales", "goal_scale", "basis", "lines", "bottom"]
  else if c == ("Reader" : Str) then ["names", "tokens", "length", "place", "open_brackets"]
  else if c == ("Asker" : Str) then ["rows", "column", "questions", "every", "widths", "plans"]
  else if c == ("Book" : Str) then ["names", "rows", "past", "future"]
  else if c == ("Desk" : Str) then ["book"]
  else if c == ("Event" : Str) then ["tree"] else []
inductive Lit where
  | non | bl (b : Bool) | int (i : Int) | str (x : Str)
  deriving DecidableEq
inductive Bop where
  | add | sub | mul | fdiv | mod | pow | shl | shr
  deriving DecidableEq
inductive Cop where
  | eq | ne | lt | le | gt | ge | isIn | notIn
  deriving DecidableEq
inductive Ty where
  | int | bool | str | tuple | list | cls (c : Str)
  deriving DecidableEq
inductive Blt where
  | len | abs | min2 | max2 | int | tuple | list | all | any | sum | str | rev
  deriving DecidableEq
inductive Mth where
  | index | bits | count | kinds
  deriving DecidableEq
/-- a target: a name's place, or several -/
inductive Tg where
  | nm (i : Nat) | nil | cons (a r : Tg)
  deriving DecidableEq
/-- is the place stored at? -/
def Tg.has : Tg → Nat → Bool
  | .nm i, j => i == j
  | .nil, _ => false
  | .cons a r, j => a.has j || r.has j
mutual
inductive Ex where
  | loc (i : Nat) | glo (x : Str) | lit (l : Lit)
  | bin (o : Bop) (a b : Ex) | neg (a : Ex) | not (a : Ex)
  | cmp (o : Cop) (a b : Ex) | chn (o p : Cop) (a b c : Ex) | chn3 (o p q : Cop) (a b c d : Ex) | isl (neg : Bool) (a : Ex) (l : Lit)
  | and (a b : Ex) | or (a b : Ex) | ite (c a b : Ex)
  | tup (xs : Exs) | lst (xs : Exs)
  | ix (a b : Ex) | sl (a : Ex) (lo hi : Oex)
  | call (f : Str) (xs : Exs) | cio (f : Str) (i : Nat) (xs : Exs)
  | mio (f c : Str) (i : Nat) (xs : Exs) | fo (i : Nat) (f : Str)
  | blt (f : Blt) (xs : Exs) | isi (a : Ex) (ts : List Ty)
  | mth (m : Mth) (o : Ex) (xs : Exs)
  | fld (i : Nat) (f : Str)
  | lc (vs : List Nat) (t : Tg) (it : It) (c : Oex) (e : Ex)
  | lc2 (vs vs1 : List Nat) (t : Tg) (it : It) (t1 : Tg) (it1 : It) (e : Ex)
  | lcO (vs : List Nat) (t : Tg) (i : Nat) (c : Oex) (e : Ex)
  | isx (i : Nat) | dct (vs : List Nat) (t : Tg) (it : It) (k e : Ex)
inductive Exs where
  | nil | cons (star : Bool) (e : Ex) (r : Exs)
inductive Oex where
  | no | yes (e : Ex)
inductive It where
  | seq (e : Ex) | rng (a : Ex) | rng2 (a b : Ex) | enum (i : It) | zip (i j : It) | zip3 (a b c : Ex)
end
mutual
inductive Sm where
  | set (i : Nat) (e : Ex) | unp (t : Tg) (e : Ex) | par (i j : Nat) (a b : Ex)
  | put (i : Nat) (k v : Ex) | putF (i : Nat) (f : Str) (k v : Ex) | setF (i : Nat) (f : Str) (e : Ex)
  | aug (i : Nat) (o : Bop) (e : Ex) | augF (i : Nat) (f : Str) (o : Bop) (e : Ex)
  | app (i : Nat) (e : Ex) | appF (i : Nat) (f : Str) (e : Ex) | ext (i : Nat) (e : Ex) | ins (i : Nat) (k e : Ex)
  | ex (e : Ex) | make (i : Nat) (c f : Str) (xs : Exs)
  | forr (t : Tg) (it : It) (b : Sms) | whil (c : Ex) (b : Sms)
  | iff (c : Ex) (a b : Sms) | ret (e : Ex) | retN
  | rais (c : Str) (x : Oex) | tri (b : Sms) (h : Hds) | mat (e : Ex) (h : Hds)
  | pass | cont | brk
inductive Sms where
  | nil | cons (a : Sm) (r : Sms)
inductive Hds where
  | nil | cons (c : Str) (i : Option Nat) (b : Sms) (r : Hds)
end
def limN : Nat := 16000000
def Lit.d : Lit → D
  | .non => .non | .bl b => .bl b | .int i => .int i | .str x => .str x
def truth : D → Option Bool
  | .non => some false | .bl b => some b | .int i => some (i != 0) | .str x => some ((x.length : Int) != 0)
  | .tup xs => some (!xs.isEmpty) | .lst xs => some (!xs.isEmpty) | .obj _ _ => none
def smallI (i : Int) : Bool := decide (-(2 ^ 64) < i ∧ i < 2 ^ 64)
def mulOk (i j : Int) : Bool := smallI i || smallI j || decide (i.natAbs.log2 + j.natAbs.log2 < 1000000)
def divOk (i j : Int) : Bool := decide (j ≠ 0) && !Builtin.divisionGoesByPylong i j
def powOk (i j : Int) : Bool := decide (0 ≤ j ∧ j ≤ 1000000 ∧ i.natAbs < 2 ^ 64)
def binD : Bop → D → D → Option (D × Bool)
  | .add, .int i, .int j => some (.int (i + j), false)
  | .add, .str x, .str y => if x.length + y.length ≤ limN then some (.str (x ++ y), false) else none
  | .add, .lst xs, .lst ys => if xs.length + ys.length ≤ limN then some (.lst (xs ++ ys), true) else none
  | .add, .tup xs, .tup ys => if xs.length + ys.length ≤ limN then some (.tup (xs ++ ys), false) else none
  | .sub, .int i, .int j => some (.int (i - j), false)
  | .mul, .int i, .int j => if mulOk i j = true then some (.int (i * j), false) else none
  | .mul, .tup [x], .int k => if 2 ≤ k ∧ k ≤ 1000 then some (.tup (List.replicate k.toNat x), false) else none
  | .fdiv, .int i, .int j => if divOk i j = true then some (.int (i.fdiv j), false) else none
  | .mod, .int i, .int j => if j ≠ 0 then some (.int (i.fmod j), false) else none
  | .pow, .int i, .int j => if powOk i j = true then some (.int (i ^ j.toNat), false) else none
  | .shl, .int i, .int j => if powOk i j = true then some (.int (i * 2 ^ j.toNat), false) else none
  | .shr, .int i, .int j => if 0 ≤ j then some (.int (i / 2 ^ j.toNat), false) else none
  | _, _, _ => none
/-- a op= b -/
def augD : Bop → D → D → Option D
  | .add, .int i, .int j => some (.int (i + j))
  | .sub, .int i, .int j => some (.int (i - j))
  | _, _, _ => none
def negD : D → Option D
  | .int i => some (.int (-i)) | _ => none
mutual
/-- Python's == -/
def eqv : D → D → Bool
  | .non, .non => true
  | .bl a, .bl b => a == b
  | .bl a, .int j => (if a then 1 else 0) == j
  | .int i, .bl b => i == (if b then 1 else 0)
  | .int i, .int j => i == j
  | .str x, .str y => x == y
  | .lst xs, .lst ys => eqvs xs ys
  | .tup xs, .tup ys => eqvs xs ys
  | _, _ => false
def eqvs : List D → List D → Bool
  | [], [] => true
  | x :: xs, y :: ys => eqv x y && eqvs xs ys
  | _, _ => false
end
mutual
/-- no object within, and nested less than n deep -/
def flatN : Nat → D → Bool
  | 0, _ => false
  | n + 1, .tup xs => flatNs n xs
  | n + 1, .lst xs => flatNs n xs
  | _ + 1, .obj _ _ => false
  | _ + 1, _ => true
def flatNs : Nat → List D → Bool
  | _, [] => true
  | n, x :: xs => flatN n x && flatNs n xs
end
mutual
def noObj : D → Bool
  | .tup xs => noObjs xs
  | .lst xs => noObjs xs
  | .obj _ _ => false
  | _ => true
def noObjs : List D → Bool
  | [] => true
  | x :: xs => noObj x && noObjs xs
end
def isFlat : D → Bool
  | .non => true | .bl _ => true | .int _ => true | .str _ => true | _ => false
def eqD (x y : D) : Option Bool := if noObj x && noObj y && (flatN 60 x || flatN 60 y) then some (eqv x y) else none
def strIn (x y : Str) : Option Bool := if x.length = 1 then some (y.cps.toList.contains (x.cps.getD 0 0)) else none
def inD : D → D → Option Bool
  | .str x, .str y => strIn x y
  | x, .lst ys => if isFlat x && ys.all isFlat then some (ys.any fun y => eqv y x) else if noObj x && noObjs ys && flatN 30 x && flatNs 30 ys then some (ys.any fun y => eqv y x) else none
  | x, .tup ys => if isFlat x && ys.all isFlat then some (ys.any fun y => eqv y x) else none
  | _, _ => none
def cmpD : Cop → D → D → Option Bool
  | .eq, x, y => eqD x y
  | .ne, x, y => (eqD x y).map (!·)
  | .lt, .int i, .int j => some (decide (i < j))
  | .le, .int i, .int j => some (decide (i ≤ j))
  | .gt, .int i, .int j => some (decide (j < i))
  | .ge, .int i, .int j => some (decide (j ≤ i))
  | .isIn, x, y => inD x y
  | .notIn, x, y => (inD x y).map (!·)
  | _, _, _ => none
def islD : D → Lit → Option Bool
  | .non, .non => some true
  | _, .non => some false
  | .bl a, .bl b => some (a == b)
  | _, _ => none
/-- a dict's entries: texts and what stands for them; what stands for a text; one more -/
def pr : List Str → List D → List D
  | k :: ks, d :: ds => .tup [.str k, d] :: pr ks ds
  | _, _ => []
def lookP (k : Str) : List D → Option D
  | .tup [.str j, d] :: r => if j = k then some d else lookP k r
  | _ => none
def hasP (k : Str) : List D → Bool
  | .tup [.str j, _] :: r => j == k || hasP k r
  | _ => false
def setP (k : Str) (d : D) : List D → List D
  | .tup [.str j, e] :: r => .tup [.str j, if j = k then d else e] :: setP k d r
  | r => r
def putP (k : Str) (d : D) (ps : List D) : List D := if hasP k ps then setP k d ps else ps ++ [.tup [.str k, d]]
def dctN : Str := "dict"
def ixD : D → D → Option D
  | .obj c ps, .str k => if c = dctN then lookP k ps else none
  | .lst xs, .int i => L2.atI xs i
  | .tup xs, .int i => L2.atI xs i
  | .str x, .int i => (L2.atI x.cps.toList i).map fun c => .str ⟨#[c]⟩
  | _, _ => none
def cut {α : Type} (xs : List α) (lo hi : Option Int) : List α := (xs.drop (HT.sIx xs.length 0 lo)).take (HT.sIx xs.length xs.length hi - HT.sIx xs.length 0 lo)
def slD : D → Option Int → Option Int → Option (D × Bool)
  | .lst xs, lo, hi => some (.lst (cut xs lo hi), true)
  | .tup xs, lo, hi => some (.tup (cut xs lo hi), false)
  | .str x, lo, hi => some (.str ⟨(cut x.cps.toList lo hi).toArray⟩, false)
  | _, _, _ => none
def lenD : D → Option Nat
  | .str x => some x.length | .tup xs => some xs.length | .lst xs => some xs.length | _ => none
/-- items that a loop over it takes -/
def itemsD : D → Option (List D)
  | .lst xs => some xs | .tup xs => some xs | .str x => some (x.cps.toList.map fun c => .str ⟨#[c]⟩) | _ => none
def lstO : D → Option (List D)
  | .lst xs => some xs | _ => none
def seqD : D → Option (List D)
  | .lst xs => some xs | .tup xs => some xs | _ => none
def boolsD : List D → Option (List Bool)
  | [] => some []
  | .bl b :: r => (boolsD r).map (b :: ·)
  | _ :: _ => none
def intsD : List D → Option (List Int)
  | [] => some []
  | .int b :: r => (intsD r).map (b :: ·)
  | _ :: _ => none
def bltD : Blt → List D → Option (D × Bool)
  | .len, [x] => (lenD x).map fun (n : Nat) => (.int (n : Int), false)
  | .abs, [.int i] => some (.int (if i < 0 then -i else i), false)
  | .min2, [.int i, .int j] => some (.int (if j < i then j else i), false)
  | .max2, [.int i, .int j] => some (.int (if j > i then j else i), false)
  | .int, [.int i] => some (.int i, false)
  | .int, [.bl b] => some (.int (if b then 1 else 0), false)
  | .tuple, [.lst xs] => some (.tup xs, false)
  | .tuple, [.tup xs] => some (.tup xs, false)
  | .list, [.lst xs] => some (.lst xs, true)
  | .list, [.tup xs] => some (.lst xs, true)
  | .all, [.lst xs] => (boolsD xs).map fun bs => (.bl (bs.all id), false)
  | .any, [.lst xs] => (boolsD xs).map fun bs => (.bl (bs.any id), false)
  | .sum, [.lst xs] => (intsD xs).map fun ns => (.int ns.sum, false)
  | .rev, [.lst xs] => some (.lst xs.reverse, true)
  | _, _ => none
def isTy : D → Ty → Bool
  | .bl _, .bool => true | .bl _, .int => true | .int _, .int => true | .str _, .str => true
  | .tup _, .tuple => true | .lst _, .list => true | .obj c _, .cls d => c == d | _, _ => false
def isTys (d : D) (ts : List Ty) : Bool := ts.any (isTy d)
def bitsOf (i : Int) : Nat := Builtin.Int.intBits i
/-- the first place of a text -/
def firstAt (x : Str) : List D → Option Nat
  | [] => none
  | .str y :: r => if y = x then some 0 else (firstAt x r).map (· + 1)
  | _ :: _ => none
def allStr : List D → Bool
  | [] => true
  | .str _ :: r => allStr r
  | _ :: _ => false
/-- how often a text is there -/
def cntS (x : Str) : List D → Nat
  | [] => 0
  | .str y :: r => (if y = x then 1 else 0) + cntS x r
  | _ :: r => cntS x r
/-- the texts, each once -/
def metD : List D → List Str → List Str
  | [], acc => acc
  | .str x :: r, acc => metD r (if x ∈ acc then acc else x :: acc)
  | _ :: r, acc => metD r acc
def mthD : Mth → D → List D → Option D
  | .index, .tup ys, [.str x] => if allStr ys then (firstAt x ys).map fun (n : Nat) => .int (n : Int) else none
  | .bits, .int i, [] => some (.int (bitsOf i))
  | .count, .lst ys, [.str x] => if allStr ys then some (.int (cntS x ys : Nat)) else none
  | .kinds, .lst ys, [] => if allStr ys && decide (ys.length ≤ 4000) then some (.int ((metD ys []).length : Nat)) else none
  | _, _, _ => none
/-- whose method it is -/
def mthO : Mth → D → Option Unit
  | .count, .lst _ => some ()
  | .kinds, .lst _ => some ()
  | .index, .tup _ => some ()
  | .bits, .int _ => some ()
  | _, _ => none
def rngL (a b : Int) : List D := (List.range (b - a).toNat).map fun (i : Nat) => D.int (a + i)
def rngD (a b : Int) : Option (List D) := if -1000000000 ≤ a ∧ a ≤ 1000000000 ∧ -1000000000 ≤ b ∧ b ≤ 1000000000 ∧ (b - a).toNat ≤ limN then some (rngL a b) else none
def enumL : Nat → List D → List D
  | _, [] => []
  | n, x :: xs => .tup [.int n, x] :: enumL (n + 1) xs
def zipL : List D → List D → List D
  | x :: xs, y :: ys => .tup [x, y] :: zipL xs ys
  | _, _ => []
def zipL3 : List D → List D → List D → List D
  | x :: xs, y :: ys, z :: zs => .tup [x, y, z] :: zipL3 xs ys zs
  | _, _, _ => []
def Slot.pinned : Slot → Bool
  | .ow p _ => p | .ob p _ _ => p | _ => false
/-- a store at a name: a pinned one is never stored -/
def Slot.noEx : Slot → Bool
  | .exn _ _ => false | _ => true
def setS (s : Sg) (i : Nat) (x : Slot) : Option Sg := match s[i]? with
  | some y => if y.pinned then none else some (s.set i x)
  | none => none
def mkS (d : D) (fr : Bool) : Slot := match d, fr with
  | .lst xs, true => .ow false xs
  | d, _ => .sh d
def asg : Tg → D → Sg → Option Sg
  | .nm i, d, s => setS s i (.sh d)
  | .nil, .tup [], s => some s
  | .nil, .lst [], s => some s
  | .cons a r, .tup (x :: xs), s => (asg a x s).bind (asg r (.tup xs))
  | .cons a r, .lst (x :: xs), s => (asg a x s).bind (asg r (.tup xs))
  | _, _, _ => none
def wipeS (s : Sg) : List Nat → Sg
  | [] => s
  | v :: vs => (wipeS s vs).set v .un
/-- the slots at vs as they were in t -/
def backS (t : Sg) (s : Sg) : List Nat → Sg
  | [] => s
  | v :: vs => (backS t s vs).set v (t.getD v .un)
def fldG (fs : List (Str × Fld)) (f : Str) : Option Fld := fs.lookup f
def fldP (f : Str) (x : Fld) : List (Str × Fld) → List (Str × Fld)
  | [] => [(f, x)]
  | (g, y) :: r => if g = f then (g, x) :: r else (g, y) :: fldP f x r
def mkF (d : D) (fr : Bool) : Fld := match d, fr with
  | .lst xs, true => .ow xs
  | d, _ => .sh d
mutual
/-- no call that may change a slot's object -/
def Ex.noio : Ex → Bool
  | .loc _ | .glo _ | .lit _ | .fld _ _ | .fo _ _ | .isx _ => true
  | .bin _ a b => a.noio && b.noio
  | .neg a | .not a | .isl _ a _ | .isi a _ => a.noio
  | .cmp _ a b | .and a b | .or a b | .ix a b => a.noio && b.noio
  | .chn _ _ a b c | .ite a b c => a.noio && b.noio && c.noio
  | .chn3 _ _ _ a b c d => a.noio && b.noio && c.noio && d.noio
  | .tup xs | .lst xs | .call _ xs | .blt _ xs => xs.noio
  | .sl a lo hi => a.noio && lo.noio && hi.noio
  | .cio _ _ _ | .mio _ _ _ _ => false
  | .mth _ o xs => o.noio && xs.noio
  | .lc _ _ it c e => it.noio && c.noio && e.noio
  | .lc2 _ _ _ it _ it1 e => it.noio && it1.noio && e.noio
  | .lcO _ _ _ c e => c.noio && e.noio
  | .dct _ _ it k e => it.noio && k.noio && e.noio
def Exs.noio : Exs → Bool
  | .nil => true
  | .cons _ e r => e.noio && r.noio
def Oex.noio : Oex → Bool
  | .no => true
  | .yes e => e.noio
def It.noio : It → Bool
  | .seq e => e.noio
  | .rng a => a.noio
  | .rng2 a b => a.noio && b.noio
  | .enum i => i.noio
  | .zip i j => i.noio && j.noio
  | .zip3 a b c => a.noio && b.noio && c.noio
end
/-- may the first operand's list be read behind the second operand? -/
def late (a b : Ex) : Bool := match a with
  | .loc _ => true
  | .fo _ _ => b.noio
  | _ => false
def lateO (a : Ex) (lo hi : Oex) : Bool := match a with
  | .loc _ => true
  | .fo _ _ => lo.noio && hi.noio
  | _ => false
/-- a comprehension's loop: what is made so far, in turn -/
def lcR (b : D → List D → Sg → R (List D)) : List D → List D → Sg → R (List D)
  | [], acc, s => .ok acc s
  | x :: xs, acc, s => (b x acc s).bind fun acc s => lcR b xs acc s
/-- one turn: the target's names, what is made, the names forgotten -/
def lcB (vs : List Nat) (t : Tg) (kb : List D → Sg → R (List D)) (x : D) (acc : List D) (s : Sg) : R (List D) :=
  (R.of (asg t x s) s).bind fun s1 _ => (kb acc s1).bind fun acc s => .ok acc (wipeS s vs)
def appR (acc : List D) (y : D) (s : Sg) : R (List D) := if acc.length < limN then .ok (acc ++ [y]) s else .bad
def putR (acc : List D) (k d : D) (s : Sg) : R (List D) := match k with
  | .str x => if acc.length < limN then .ok (putP x d acc) s else .bad
  | _ => .bad
/-- a caught error: its class stands below ValueError -/
def isxS (s : Sg) (i : Nat) : R (D × Bool) := match s[i]? with
  | some (.exn _ _) => .ok (.bl true, false) s
  | _ => .bad
/-- nothing may be raised out of a comprehension -/
def noexR {α : Type} : R α → R α
  | .ex _ _ _ => .bad
  | r => r
@[simp] theorem noexR_ok {α : Type} (a : α) (s : Sg) : noexR (R.ok a s) = .ok a s := rfl
/-- a name's list or data, read and let be -/
def readS (s : Sg) (i : Nat) : R D := match s[i]? with
  | some (.sh d) => .ok d s
  | some (.ow _ xs) => .ok (.lst xs) s
  | _ => .bad
def readF (s : Sg) (i : Nat) (f : Str) : R D := match s[i]? with
  | some (.exn c (some d)) => if fldOf c = some f then .ok d s else .bad
  | _ => .bad
/-- .. handed on: a list of its own becomes data -/
def takeS (s : Sg) (i : Nat) : R (D × Bool) := match s[i]? with
  | some (.sh d) => .ok (d, false) s
  | some (.ow false xs) => .ok (.lst xs, false) (s.set i (.sh (.lst xs)))
  | _ => .bad
def takeF (s : Sg) (i : Nat) (f : Str) : R (D × Bool) := match s[i]? with
  | some (.exn c (some d)) => if fldOf c = some f then .ok (d, false) s else .bad
  | _ => .bad
/-- a field of an object of a slot -/
def readO (s : Sg) (i : Nat) (f : Str) : R D := match s[i]? with
  | some (.ob _ _ fs) => (match fldG fs f with
    | some (.sh d) => .ok d s
    | some (.ow xs) => .ok (.lst xs) s
    | none => .bad)
  | _ => .bad
def takeO (s : Sg) (i : Nat) (f : Str) : R (D × Bool) := match s[i]? with
  | some (.ob p c fs) => (match fldG fs f with
    | some (.sh d) => .ok (d, false) s
    | some (.ow xs) => .ok (.lst xs, false) (s.set i (.ob p c (fldP f (.sh (.lst xs)) fs)))
    | none => .bad)
  | _ => .bad
/-- a value that is only looked at; v: its evaluation -/
def rd (a : Ex) (v : Sg → R (D × Bool)) (s : Sg) : R D := match a with
  | .loc i => readS s i
  | .fld i f => readF s i f
  | .fo i f => readO s i f
  | _ => (v s).bind fun x s => .ok x.1 s
/-- two operands -/
def two (a b : Ex) (va vb : Sg → R (D × Bool)) (s : Sg) : R (D × D) :=
  if late a b then (rd a va s).bind fun _ s => (rd b vb s).bind fun y s => (rd a va s).bind fun x s => .ok (x, y) s else (va s).bind fun x s => (rd b vb s).bind fun y s => .ok (x.1, y) s
def intR (x : D) (s : Sg) : R Int := match x with
  | .int i => .ok i s
  | _ => .bad
def callR (r : CR) (s : Sg) : R (D × Bool) := match r with
  | .ret d fr _ => .ok (d, fr) s
  | .ex c x _ => .ex c x s
  | .bad => .bad
def callIo (call : Call) (f : Str) (i : Nat) (ds : List D) (s : Sg) : R (D × Bool) := match s[i]? with
  | some io => (match call f io ds with
    | .ret d fr io' => .ok (d, fr) (s.set i io')
    | .ex c x io' => .ex c x (s.set i io')
    | .bad => .bad)
  | none => .bad
/-- is there a thing to be changed? -/
def hasS (s : Sg) (i : Nat) : R Unit := match s[i]? with
  | some (.ow _ _) => .ok () s
  | some (.ob _ _ _) => .ok () s
  | _ => .bad
def hasO (s : Sg) (i : Nat) (c : Str) : R Unit := match s[i]? with
  | some (.ob _ c' _) => if c' = c then .ok () s else .bad
  | _ => .bad
def hasFL (s : Sg) (i : Nat) (f : Str) : R Unit := match s[i]? with
  | some (.ob _ _ fs) => (match fldG fs f with
    | some (.ow _) => .ok () s
    | _ => .bad)
  | _ => .bad
def hasL (s : Sg) (i : Nat) : R Unit := match s[i]? with
  | some (.ow _ _) => .ok () s
  | _ => .bad
def lstD : D × Bool → Option (List D)
  | (.lst xs, true) => some xs | _ => none
def lenOk (ds : List D) (d : D) (fr : Bool) (s : Sg) : R (D × Bool) := if ds.length ≤ limN then .ok (d, fr) s else .bad
section
variable (gl : Str → Option D) (call : Call)
mutual
/-- a value, and whether it is a new list -/
def evE : Ex → Sg → R (D × Bool)
  | .loc i, s => takeS s i
  | .glo x, s => R.of ((gl x).map fun d => (d, false)) s
  | .lit l, s => .ok (l.d, false) s
  | .bin o a b, s => (two a b (evE a) (evE b) s).bind fun p s => R.of (binD o p.1 p.2) s
  | .neg a, s => (rd a (evE a) s).bind fun x s => R.of ((negD x).map fun d => (d, false)) s
  | .not a, s => (rd a (evE a) s).bind fun x s => R.of ((truth x).map fun b => (.bl (!b), false)) s
  | .cmp o a b, s => (two a b (evE a) (evE b) s).bind fun p s => R.of ((cmpD o p.1 p.2).map fun b => (.bl b, false)) s
  | .chn o p a b c, s => (evE a s).bind fun x s => (evE b s).bind fun y s => (R.of (cmpD o x.1 y.1) s).bind fun k s =>
      if k then (rd c (evE c) s).bind fun z s => R.of ((cmpD p y.1 z).map fun b => (.bl b, false)) s else .ok (.bl false, false) s
  | .chn3 o p q a b c d, s => (evE a s).bind fun x s => (evE b s).bind fun y s => (R.of (cmpD o x.1 y.1) s).bind fun k s =>
      if k then (evE c s).bind fun z s => (R.of (cmpD p y.1 z.1) s).bind fun k s => if k then (rd d (evE d) s).bind fun w s => R.of ((cmpD q z.1 w).map fun b => (.bl b, false)) s else .ok (.bl false, false) s
      else .ok (.bl false, false) s
  | .isl n a l, s => (rd a (evE a) s).bind fun x s => R.of ((islD x l).map fun b => (.bl (b != n), false)) s
  | .and a b, s => (evE a s).bind fun x s => (R.of (truth x.1) s).bind fun k s => if k then evE b s else .ok (x.1, false) s
  | .or a b, s => (evE a s).bind fun x s => (R.of (truth x.1) s).bind fun k s => if k then .ok (x.1, false) s else evE b s
  | .ite c a b, s => (rd c (evE c) s).bind fun x s => (R.of (truth x) s).bind fun k s => if k then evE a s else evE b s
  | .tup xs, s => (evXs xs s).bind fun ds s => lenOk ds (.tup ds) false s
  | .lst xs, s => (evXs xs s).bind fun ds s => lenOk ds (.lst ds) true s
  | .ix a b, s => (two a b (evE a) (evE b) s).bind fun p s => R.of ((ixD p.1 p.2).map fun d => (d, false)) s
  | .sl a lo hi, s => (if lateO a lo hi then (rd a (evE a) s).bind fun _ s => (evO lo s).bind fun l s => (evO hi s).bind fun h s => (rd a (evE a) s).bind fun x s => .ok (x, l, h) s
      else (evE a s).bind fun x s => (evO lo s).bind fun l s => (evO hi s).bind fun h s => .ok (x.1, l, h) s).bind fun p s => R.of (slD p.1 p.2.1 p.2.2) s
  | .call f xs, s => (evXs xs s).bind fun ds s => callR (call f .un ds) s
  | .cio f i xs, s => (hasS s i).bind fun _ s => (evXs xs s).bind fun ds s => callIo call f i ds s
  | .mio f c i xs, s => (hasO s i c).bind fun _ s => (evXs xs s).bind fun ds s => callIo call f i ds s
  | .fo i f, s => takeO s i f
  | .blt f (.cons false a .nil), s => (rd a (evE a) s).bind fun x s => R.of (bltD f [x]) s
  | .blt f xs, s => (evXs xs s).bind fun ds s => R.of (bltD f ds) s
  | .isi a ts, s => (rd a (evE a) s).bind fun x s => .ok (.bl (isTys x ts), false) s
  | .mth m o xs, s => (evE o s).bind fun x s => (R.of (mthO m x.1) s).bind fun _ s => (evXs xs s).bind fun ds s => R.of ((mthD m x.1 ds).map fun d => (d, false)) s
  | .fld i f, s => takeF s i f
  | .lc vs t it c e, s => (evIt it s).bind fun ds s0 => (noexR (lcR (lcB vs t fun acc s => (evC c s).bind fun k s => if k then (evE e s).bind fun y s => appR acc y.1 s else .ok acc s) ds [] (wipeS s0 vs))).bind fun ys s' => .ok (.lst ys, true) (backS s0 s' vs)
  | .lc2 vs vs1 t it t1 it1 e, s => (evIt it s).bind fun ds s0 => (noexR (lcR (lcB vs t fun acc s => (evIt it1 s).bind fun es s => lcR (lcB vs1 t1 fun acc s => (evE e s).bind fun y s => appR acc y.1 s) es acc (wipeS s vs1)) ds [] (wipeS s0 vs))).bind fun ys s' => .ok (.lst ys, true) (backS s0 s' vs)
  | .lcO vs t i c e, s => if c.noio && e.noio then (readS s i).bind fun x s0 => (R.of (lstO x) s0).bind fun ds s0 => (noexR (lcR (lcB vs t fun acc s => (evC c s).bind fun k s => if k then (evE e s).bind fun y s => appR acc y.1 s else .ok acc s) ds [] (wipeS s0 vs))).bind fun ys s' => .ok (.lst ys, true) (backS s0 s' vs) else .bad
  | .isx i, s => isxS s i
  | .dct vs t it k e, s => (evIt it s).bind fun ds s0 => (noexR (lcR (lcB vs t fun acc s => (evE k s).bind fun y s => (evE e s).bind fun z s => putR acc y.1 z.1 s) ds [] (wipeS s0 vs))).bind fun ys s' => .ok (.obj dctN ys, false) (backS s0 s' vs)
def evC : Oex → Sg → R Bool
  | .no, s => .ok true s
  | .yes e, s => (rd e (evE e) s).bind fun x s => R.of (truth x) s
def evO : Oex → Sg → R (Option Int)
  | .no, s => .ok none s
  | .yes e, s => (rd e (evE e) s).bind fun x s => (intR x s).bind fun i s => .ok (some i) s
def evXs : Exs → Sg → R (List D)
  | .nil, s => .ok [] s
  | .cons false e r, s => (evE e s).bind fun x s => (evXs r s).bind fun ds s => .ok (x.1 :: ds) s
  | .cons true e r, s => (evE e s).bind fun x s => (R.of (seqD x.1) s).bind fun xs s => (evXs r s).bind fun ds s => .ok (xs ++ ds) s
/-- what a loop walks -/
def evIt : It → Sg → R (List D)
  | .seq e, s => (evE e s).bind fun x s => R.of (itemsD x.1) s
  | .rng a, s => (evE a s).bind fun x s => (intR x.1 s).bind fun j s => R.of (rngD 0 j) s
  | .rng2 a b, s => (evE a s).bind fun x s => (evE b s).bind fun y s => (intR x.1 s).bind fun i s => (intR y.1 s).bind fun j s => R.of (rngD i j) s
  | .enum i, s => (evIt i s).bind fun xs s => .ok (enumL 0 xs) s
  | .zip i j, s => (evIt i s).bind fun xs s => (evIt j s).bind fun ys s => .ok (zipL xs ys) s
  | .zip3 a b c, s => (evE a s).bind fun x s => (R.of (itemsD x.1) s).bind fun xs s => (evE b s).bind fun y s => (R.of (itemsD y.1) s).bind fun ys s => (evE c s).bind fun z s => (R.of (itemsD z.1) s).bind fun zs s => .ok (zipL3 xs ys zs) s
end
/-- a test -/
def evT (e : Ex) (s : Sg) : R Bool := (rd e (evE gl call e) s).bind fun x s => R.of (truth x) s
end
inductive Fl where
  | nx | ret (d : D) (fr : Bool) | bk | ct
def loopF (b : D → Sg → R Fl) : List D → Sg → R Fl
  | [], s => .ok .nx s
  | x :: xs, s => (b x s).bind fun f s => match f with
    | .nx => loopF b xs s
    | .ct => loopF b xs s
    | .bk => .ok .nx s
    | .ret d fr => .ok (.ret d fr) s
/-- n turns of a while, if it ends by then -/
def whN (t : Sg → R Bool) (b : Sg → R Fl) : Nat → Sg → Option (R Fl)
  | 0, _ => none
  | n + 1, s => match t s with
    | .ok false s => some (.ok .nx s)
    | .ok true s => (match b s with
      | .ok .nx s => whN t b n s
      | .ok .ct s => whN t b n s
      | .ok .bk s => some (.ok .nx s)
      | .ok (.ret d fr) s => some (.ok (.ret d fr) s)
      | .ex c x s => some (.ex c x s)
      | .bad => some .bad)
    | .ex c x s => some (.ex c x s)
    | .bad => some .bad
open Classical in
noncomputable def whR (t : Sg → R Bool) (b : Sg → R Fl) (s : Sg) : R Fl :=
  if h : ∃ p : Nat × R Fl, whN t b p.1 s = some p.2 then (Classical.choose h).2 else .bad
def seqF (r : R Fl) (k : Sg → R Fl) : R Fl := match r with
  | .ok .nx s => k s
  | r => r
@[simp] theorem seqF_nx (s : Sg) (k : Sg → R Fl) : seqF (.ok .nx s) k = k s := rfl
@[simp] theorem seqF_ret (d : D) (fr : Bool) (s : Sg) (k : Sg → R Fl) : seqF (.ok (.ret d fr) s) k = .ok (.ret d fr) s := rfl
@[simp] theorem seqF_bk (s : Sg) (k : Sg → R Fl) : seqF (.ok .bk s) k = .ok .bk s := rfl
@[simp] theorem seqF_ct (s : Sg) (k : Sg → R Fl) : seqF (.ok .ct s) k = .ok .ct s := rfl
@[simp] theorem seqF_ex (c : Str) (x : Option D) (s : Sg) (k : Sg → R Fl) : seqF (.ex c x s) k = .ex c x s := rfl
@[simp] theorem seqF_bad (k : Sg → R Fl) : seqF .bad k = .bad := rfl
def ofS (o : Option Sg) : R Fl := match o with
  | some s => .ok .nx s
  | none => .bad
/-- an item of an own list stored -/
def putS (s : Sg) (i : Nat) (k v : D) : Option Sg := match s[i]?, k with
  | some (.ow p xs), .int k => (L2.ixN xs.length k).map fun j => s.set i (.ow p (xs.set j v))
  | _, _ => none
def putFS (s : Sg) (i : Nat) (f : Str) (k v : D) : Option Sg := match s[i]? with
  | some (.ob p c fs) => (match fldG fs f, k with
    | some (.ow xs), .int k => (L2.ixN xs.length k).map fun j => s.set i (.ob p c (fldP f (.ow (xs.set j v)) fs))
    | _, _ => none)
  | _ => none
def setFS (s : Sg) (i : Nat) (f : Str) (x : Fld) : Option Sg := match s[i]? with
  | some (.ob p c fs) => if fs.length < 900 ∧ f ∈ clsF c then some (s.set i (.ob p c (fldP f x fs))) else none
  | _ => none
def appS (s : Sg) (i : Nat) (ds : List D) : Option Sg := match s[i]? with
  | some (.ow p xs) => if xs.length + ds.length ≤ limN then some (s.set i (.ow p (xs ++ ds))) else none
  | _ => none
/-- xs.insert(n, d), n not below 0 -/
def insS (s : Sg) (i : Nat) (k d : D) : Option Sg := match s[i]?, k with
  | some (.ow p xs), .int n => if 0 ≤ n ∧ n < 2 ^ 63 ∧ xs.length < limN then some (s.set i (.ow p (xs.take n.toNat ++ [d] ++ xs.drop n.toNat))) else none
  | _, _ => none
def appFS (s : Sg) (i : Nat) (f : Str) (d : D) : Option Sg := match s[i]? with
  | some (.ob p c fs) => (match fldG fs f with
    | some (.ow xs) => if xs.length < limN then some (s.set i (.ob p c (fldP f (.ow (xs ++ [d])) fs))) else none
    | _ => none)
  | _ => none
/-- return x: a list of its own goes out as a new one -/
def retE (e : Ex) (v : Sg → R (D × Bool)) (s : Sg) : R Fl := match e with
  | .loc i => (match s[i]? with
    | some (.sh d) => .ok (.ret d false) s
    | some (.ow false xs) => .ok (.ret (.lst xs) true) s
    | _ => .bad)
  | _ => (v s).bind fun x s => .ok (.ret x.1 x.2) s
def makeR (r : CR) (i : Nat) (s : Sg) : R Fl := match r with
  | .ret .non _ io => (match io with
    | .ob _ c fs => ofS (setS s i (.ob false c fs))
    | _ => .bad)
  | .ex c x _ => .ex c x s
  | _ => .bad
/-- the class c of an error is x or one above it -/
def above (c x : Str) : Bool := c == x || x == ("ChanceError" : Str) || x == ("ValueError" : Str) || x == ("Exception" : Str)
def wordR (x : D) (f : Str → R Fl) : R Fl := match x with
  | .str z => f z
  | _ => .bad
@[simp] theorem wordR_str (z : Str) (f : Str → R Fl) : wordR (.str z) f = f z := rfl
/-- a suite that raises is none of ours -/
def noexF : R Fl → R Fl
  | .ex _ _ _ => .bad
  | r => r
section
variable (gl : Str → Option D) (call : Call)
mutual
noncomputable def evM : Sm → Sg → R Fl
  | .set i e, s => (evE gl call e s).bind fun x s => ofS (setS s i (mkS x.1 x.2))
  | .unp t e, s => (evE gl call e s).bind fun x s => ofS (asg t x.1 s)
  | .par i j a b, s => (evE gl call a s).bind fun x s => (evE gl call b s).bind fun y s => ofS ((setS s i (.sh x.1)).bind fun s => setS s j (.sh y.1))
  | .put i k v, s => (evE gl call v s).bind fun v s => (hasS s i).bind fun _ s => (rd k (evE gl call k) s).bind fun k s => ofS (putS s i k v.1)
  | .putF i f k v, s => (evE gl call v s).bind fun v s => (hasFL s i f).bind fun _ s => if k.noio then (rd k (evE gl call k) s).bind fun k s => ofS (putFS s i f k v.1) else .bad
  | .setF i f e, s => (evE gl call e s).bind fun x s => ofS (setFS s i f (mkF x.1 x.2))
  | .aug i o e, s => (readS s i).bind fun _ s => (rd e (evE gl call e) s).bind fun y s => (readS s i).bind fun x s => (R.of (augD o x y) s).bind fun z s => ofS (setS s i (.sh z))
  | .augF i f o e, s => (readO s i f).bind fun _ s => if e.noio then (rd e (evE gl call e) s).bind fun y s => (readO s i f).bind fun x s => (R.of (augD o x y) s).bind fun z s => ofS (setFS s i f (.sh z)) else .bad
  | .app i e, s => (hasL s i).bind fun _ s => (evE gl call e s).bind fun x s => ofS (appS s i [x.1])
  | .ins i k e, s => (hasL s i).bind fun _ s => (evE gl call k s).bind fun y s => (evE gl call e s).bind fun x s => ofS (insS s i y.1 x.1)
  | .appF i f e, s => (hasFL s i f).bind fun _ s => if e.noio then (evE gl call e s).bind fun x s => ofS (appFS s i f x.1) else .bad
  | .ext i e, s => (hasL s i).bind fun _ s => (evE gl call e s).bind fun x s => (R.of (lstD x) s).bind fun xs s => ofS (appS s i xs)
  | .ex e, s => (evE gl call e s).bind fun _ s => .ok .nx s
  | .make i c f xs, s => (evXs gl call xs s).bind fun ds s => makeR (call f (.ob true c []) ds) i s
  | .forr t it b, s => (evIt gl call it s).bind fun ds s => loopF (fun x s => seqF (ofS (asg t x s)) (evMs b)) ds s
  | .whil c b, s => whR (evT gl call c) (evMs b) s
  | .iff c a b, s => (evT gl call c s).bind fun k s => if k then evMs a s else evMs b s
  | .ret e, s => retE e (evE gl call e) s
  | .retN, s => .ok (.ret .non false) s
  | .rais c .no, s => .ex c none s
  | .rais c (.yes e), s => (evE gl call e s).bind fun x s => .ex c (some x.1) s
  | .tri b h, s => (match evMs b s with
    | .ex c x s => evH h c x s
    | r => r)
  | .mat e h, s => (rd e (evE gl call e) s).bind fun x s => wordR x fun z => evW h z s
  | .pass, s => .ok .nx s
  | .cont, s => .ok .ct s
  | .brk, s => .ok .bk s
noncomputable def evMs : Sms → Sg → R Fl
  | .nil, s => .ok .nx s
  | .cons a r, s => seqF (evM a s) (evMs r)
/-- the words' cases -/
noncomputable def evW : Hds → Str → Sg → R Fl
  | .nil, _, s => .ok .nx s
  | .cons y none b r, z, s => if z = y then evMs b s else evW r z s
  | .cons _ (some _) _ _, _, _ => .bad
noncomputable def evH : Hds → Str → Option D → Sg → R Fl
  | .nil, c, x, s => .ex c x s
  | .cons y none b r, c, x, s => if above c y then noexF (evMs b s) else evH r c x s
  | .cons y (some i) b r, c, x, s => if above c y then (match setS s i (.exn c x) with
      | some s => (match evMs b s with
        | .ok f s => if (s.set i .un).all Slot.noEx then .ok f (s.set i .un) else .bad
        | .ex _ _ _ => .bad
        | .bad => .bad)
      | none => .bad) else evH r c x s
end
end
structure Fn where
  /-- the number of parameters, of names; the first parameter's object may be changed -/
  np : Nat
  ns : Nat
  io : Bool
  body : Sms
/-- the first slot taken for the caller's -/
def pinS : Slot → Option Slot
  | .ow _ xs => some (.ow true xs)
  | .ob _ c fs => some (.ob true c fs)
  | _ => none
/-- given back, as pinned as it was -/
def unpin (p : Bool) : Slot → Slot
  | .ow _ xs => .ow p xs
  | .ob _ c fs => .ob p c fs
  | s => s
def frame (fn : Fn) (io : Slot) (ds : List D) : Option Sg :=
  if fn.io then (if ds.length + 1 = fn.np then (pinS io).map fun x => x :: ds.map Slot.sh ++ List.replicate (fn.ns - fn.np) .un else none)
  else if ds.length = fn.np then some (ds.map Slot.sh ++ List.replicate (fn.ns - fn.np) .un) else none
def backIo (fn : Fn) (io : Slot) (s : Sg) : Slot := if fn.io then unpin io.pinned (s.getD 0 .un) else .un
def endR (fn : Fn) (io : Slot) : R Fl → CR
  | .ok .nx s => .ret .non false (backIo fn io s)
  | .ok (.ret d fr) s => .ret d fr (backIo fn io s)
  | .ok _ _ => .bad
  | .ex c x s => .ex c x (backIo fn io s)
  | .bad => .bad
noncomputable def callN (gl : Str → Option D) (T : Str → Option Fn) : Nat → Call
  | 0, _, _, _ => .bad
  | n + 1, f, io, ds => match T f with
    | some fn => (match frame fn io ds with
      | some s => endR fn io (evMs gl (callN gl T n) fn.body s)
      | none => .bad)
    | none => .bad
end IL
end
section
set_option maxHeartbeats 1000000
namespace IL
open PySem PySem.Spec PyProof.Rows L2
def Sub (F H : Hp) : Prop := ∀ a o, F a = some o → H a = some o
theorem Sub.refl (F : Hp) : Sub F F := fun _ _ h => h
theorem Sub.trans {F G H : Hp} (a : Sub F G) (b : Sub G H) : Sub F H := fun c o h => b c o (a c o h)
theorem Sub.none {F H : Hp} (s : Sub F H) {a : Addr} (h : H a = Option.none) : F a = Option.none := by
  cases q : F a with
  | none => rfl
  | some o => rw [s a o q] at h; cases h
theorem Sub.rd {F H : Hp} {a : Addr} {u : HO} (s : Sub F H) (r : Rd F a u) : Rd H a u := by
  rcases r with r | ⟨o, r⟩
  · exact .inl (s _ _ r)
  · exact .inr ⟨o, s _ _ r⟩
/-- a tuple that is known to its object, without a dict: one of ours, or of the written part -/
def SqN (K : PySem.W.Frag) (F : Hp) (a : Addr) (vs : List V) : Prop :=
  (∃ o : Obj, F a = some (.frz o (.tup vs)) ∧ o.dict = none) ∨
    ∃ (o : Obj) (its : Array Value) (n : Nat), K.lookup a = some o ∧ o.cls = .type "tuple" ∧ o.dict = none ∧ o.data = .seq its n ∧ its.size ≤ sizeLine ∧ Vals vs its.toList
theorem SqN.sqT {K : PySem.W.Frag} {F : Hp} {a : Addr} {vs : List V} (h : SqN K F a vs) : SqT K F a vs := by
  rcases h with ⟨o, h, _⟩ | ⟨o, its, n, h1, h2, _, h3, h4, h5⟩
  · exact .inl (.inr ⟨o, h⟩)
  · exact .inr ⟨o, its, n, h1, h2, h3, h4, h5⟩
theorem Sub.sqL {K : PySem.W.Frag} {F H : Hp} {a : Addr} {xs : List V} (s : Sub F H) (h : SqL K F a xs) : SqL K H a xs := by
  rcases h with h | h
  · exact .inl (s.rd h)
  · exact .inr h
theorem Sub.sqN {K : PySem.W.Frag} {F H : Hp} {a : Addr} {xs : List V} (s : Sub F H) (h : SqN K F a xs) : SqN K H a xs := by
  rcases h with ⟨o, h, d⟩ | h
  · exact .inl ⟨o, s _ _ h, d⟩
  · exact .inr h
theorem sub_upd {F : Hp} {a : Addr} {o : HO} (h : F a = Option.none) : Sub F (upd F a o) := fun b u q => by
  rw [upd_ne (ne_of_none q h)]; exact q
theorem sub_upd2 {F H : Hp} {a : Addr} {o : HO} (s : Sub F H) : Sub (upd F a o) (upd H a o) := fun b u q => by
  by_cases hb : b = a
  · subst hb; rw [upd_same] at q ⊢; exact q
  · rw [upd_ne hb] at q ⊢; exact s _ _ q
theorem sub_upd1 {F H : Hp} {a : Addr} {o : HO} (s : Sub F H) (h : H a = some o) : Sub (upd F a o) H := fun b u q => by
  by_cases hb : b = a
  · subst hb; rw [upd_same] at q; cases q; exact h
  · rw [upd_ne hb] at q; exact s _ _ q
/-- the world around: the written part, the classes' addresses -/
structure Wo where
  K : PySem.W.Frag
  ca : Str → Addr
  /-- the field of an error's class -/
  xf : Str → Option Str
  /-- the errors' classes -/
  xs : List Str
  /-- the program's own classes -/
  cl : List Str
mutual
inductive Rep (w : Wo) (F : Hp) : V → D → Prop
  | non : Rep w F .non .non
  | bl (b : Bool) : Rep w F (.bl b) (.bl b)
  | int (i : Int) : Rep w F (.int i) (.int i)
  | str (x : Str) (h : PyData.strOk x = true) (hl : x.length ≤ limN) : Rep w F (.str x) (.str x)
  | tup {a : Addr} {vs : List V} {ds : List D} (h : SqN w.K F a vs) (r : Reps w F vs ds) (hl : vs.length ≤ limN) : Rep w F (.ref a) (.tup ds)
  | lst {a : Addr} {vs : List V} {ds : List D} (h : SqL w.K F a vs) (r : Reps w F vs ds) (hl : vs.length ≤ limN) : Rep w F (.ref a) (.lst ds)
  | dct {a : Addr} {ks : List Str} {vs : List V} {ds : List D} (h : F a = some (.dK ((ks.map Sum.inr).zip vs))) (r : Reps w F vs ds) (hk : ks.length = vs.length) (hl : vs.length ≤ limN) : Rep w F (.ref a) (.obj dctN (pr ks ds))
inductive Reps (w : Wo) (F : Hp) : List V → List D → Prop
  | nil : Reps w F [] []
  | cons {v : V} {vs : List V} {d : D} {ds : List D} (h : Rep w F v d) (r : Reps w F vs ds) : Reps w F (v :: vs) (d :: ds)
end
section
variable {w : Wo} {F F' H H' : Hp}
mutual
theorem Rep.mono (s : Sub F F') : ∀ {v : V} {d : D}, Rep w F v d → Rep w F' v d
  | _, _, .non => .non
  | _, _, .bl b => .bl b
  | _, _, .int i => .int i
  | _, _, .str x h hl => .str x h hl
  | _, _, .tup h r hl => .tup (s.sqN h) (Reps.mono s r) hl
  | _, _, .lst h r hl => .lst (s.sqL h) (Reps.mono s r) hl
  | _, _, .dct h r hk hl => .dct (s _ _ h) (Reps.mono s r) hk hl
theorem Reps.mono (s : Sub F F') : ∀ {vs : List V} {ds : List D}, Reps w F vs ds → Reps w F' vs ds
  | _, _, .nil => .nil
  | _, _, .cons h r => .cons (Rep.mono s h) (Reps.mono s r)
end
theorem Reps.length : ∀ {vs : List V} {ds : List D}, Reps w F vs ds → vs.length = ds.length
  | _, _, .nil => rfl
  | _, _, .cons _ r => by rw [List.length_cons, List.length_cons, Reps.length r]
theorem Reps.append : ∀ {vs us : List V} {ds es : List D}, Reps w F vs ds → Reps w F us es → Reps w F (vs ++ us) (ds ++ es)
  | _, _, _, _, .nil, q => q
  | _, _, _, _, .cons h r, q => .cons h (Reps.append r q)
theorem Reps.get : ∀ {vs : List V} {ds : List D} {i : Nat} {d : D}, Reps w F vs ds → ds[i]? = some d → ∃ v, vs[i]? = some v ∧ Rep w F v d
  | _, _, _, _, .nil, h => by simp at h
  | _, _, 0, _, .cons h r, e => by simp at e; subst e; exact ⟨_, rfl, h⟩
  | _, _, i + 1, _, .cons h r, e => by
    obtain ⟨v, q, z⟩ := Reps.get (i := i) r (by simpa using e)
    exact ⟨v, by simpa using q, z⟩
theorem Reps.set : ∀ {vs : List V} {ds : List D} {v : V} {d : D} (i : Nat), Reps w F vs ds → Rep w F v d → Reps w F (vs.set i v) (ds.set i d)
  | _, _, _, _, _, .nil, _ => .nil
  | _, _, _, _, 0, .cons _ r, q => .cons q r
  | _, _, _, _, i + 1, .cons h r, q => .cons h (Reps.set i r q)
theorem Reps.drop : ∀ {vs : List V} {ds : List D} (n : Nat), Reps w F vs ds → Reps w F (vs.drop n) (ds.drop n)
  | _, _, 0, r => r
  | _, _, _ + 1, .nil => .nil
  | _, _, n + 1, .cons _ r => Reps.drop n r
theorem Reps.take : ∀ {vs : List V} {ds : List D} (n : Nat), Reps w F vs ds → Reps w F (vs.take n) (ds.take n)
  | _, _, 0, _ => .nil
  | _, _, _ + 1, .nil => .nil
  | _, _, n + 1, .cons h r => .cons h (Reps.take n r)
theorem Reps.cut {vs : List V} {ds : List D} (lo hi : Option Int) (r : Reps w F vs ds) : Reps w F (cutV vs lo hi) (cut ds lo hi) := by
  unfold cutV IL.cut
  rw [r.length]
  exact (r.drop _).take _
theorem Reps.at {vs : List V} {ds : List D} {i : Int} {d : D} (r : Reps w F vs ds) (h : atI ds i = some d) : ∃ v, atI vs i = some v ∧ Rep w F v d := by
  unfold atI at h ⊢
  rw [r.length]
  cases q : ixN ds.length i with
  | none => rw [q] at h; cases h
  | some j =>
    rw [q] at h
    have h1 : ds[j]? = some d := h
    obtain ⟨v, e, z⟩ := r.get h1
    exact ⟨v, e, z⟩
theorem Reps.reverse : ∀ {vs : List V} {ds : List D}, Reps w F vs ds → Reps w F vs.reverse ds.reverse
  | _, _, .nil => .nil
  | _, _, .cons h r => by
    rw [List.reverse_cons, List.reverse_cons]
    exact (Reps.reverse r).append (.cons h .nil)
theorem Reps.snoc {vs : List V} {ds : List D} {v : V} {d : D} (r : Reps w F vs ds) (h : Rep w F v d) : Reps w F (vs ++ [v]) (ds ++ [d]) := r.append (.cons h .nil)
/-- data of the value v, a list at the top may be in H alone -/
def Bor (w : Wo) (F H : Hp) (v : V) (d : D) : Prop :=
  Rep w F v d ∨ ∃ a vs xs, v = .ref a ∧ d = .lst xs ∧ H a = some (.lst vs) ∧ Reps w F vs xs ∧ vs.length ≤ limN
theorem Bor.lst {v : V} {xs : List D} (s : Sub F H) (h : Bor w F H v (.lst xs)) : ∃ a vs, v = .ref a ∧ SqL w.K H a vs ∧ Reps w F vs xs ∧ vs.length ≤ limN := by
  rcases h with h | ⟨a, vs, ys, rfl, e, h, r, hl⟩
  · cases h with
    | lst h r hl => exact ⟨_, _, rfl, s.sqL h, r, hl⟩
  · cases e
    exact ⟨a, vs, rfl, .inl (.inl h), r, hl⟩
theorem Bor.rep {v : V} {d : D} (h : Bor w F H v d) (hd : ∀ xs, d ≠ .lst xs) : Rep w F v d := by
  rcases h with h | ⟨a, vs, ys, rfl, e, h, r, hl⟩
  · exact h
  · exact absurd e (hd _)
theorem Bor.tup {v : V} {xs : List D} (s : Sub F H) (h : Bor w F H v (.tup xs)) : ∃ a vs, v = .ref a ∧ SqN w.K H a vs ∧ Reps w F vs xs ∧ vs.length ≤ limN := by
  cases h.rep (fun _ e => by cases e) with
  | tup h1 r hl => exact ⟨_, _, rfl, s.sqN h1, r, hl⟩
theorem Bor.int {v : V} {i : Int} (h : Bor w F H v (.int i)) : v = .int i := by
  cases h.rep (fun _ e => by cases e) with
  | int i => rfl
theorem Bor.bl {v : V} {i : Bool} (h : Bor w F H v (.bl i)) : v = .bl i := by
  cases h.rep (fun _ e => by cases e) with
  | bl i => rfl
theorem Bor.non {v : V} (h : Bor w F H v .non) : v = .non := by
  cases h.rep (fun _ e => by cases e) with
  | non => rfl
theorem Bor.str {v : V} {x : Str} (h : Bor w F H v (.str x)) : v = .str x ∧ PyData.strOk x = true ∧ x.length ≤ limN := by
  cases h.rep (fun _ e => by cases e) with
  | str i h1 hl => exact ⟨rfl, h1, hl⟩
theorem Bor.dct {v : V} {c : Str} {xs : List D} (s : Sub F H) (h : Bor w F H v (.obj c xs)) : ∃ a ks vs ds, v = .ref a ∧ c = dctN ∧ xs = pr ks ds ∧ H a = some (.dK ((ks.map Sum.inr).zip vs)) ∧ Reps w F vs ds ∧ ks.length = vs.length ∧ vs.length ≤ limN := by
  cases h.rep (fun _ e => by cases e) with
  | dct h1 r hk hl => exact ⟨_, _, _, _, rfl, rfl, rfl, s _ _ h1, r, hk, hl⟩
theorem limN_le : limN ≤ sizeLine := by rw [sizeLine_eq]; decide
mutual
def toP : D → PyData
  | .non => .none | .bl b => .bool b | .int i => .int i | .str x => .str x
  | .tup xs => .tuple (toPs xs) | .lst xs => .list (toPs xs) | .obj _ _ => .none
def toPs : List D → List PyData
  | [] => []
  | x :: xs => toP x :: toPs xs
end
mutual
theorem Rep.dp (s : Sub F H) : ∀ {v : V} {d : D}, Rep w F v d → noObj d = true → Dp w.K H v (toP d)
  | _, _, .non, _ => .non
  | _, _, .bl b, _ => .bl b
  | _, _, .int i, _ => .int i
  | _, _, .str x h hl, _ => .str x
  | _, _, .tup h r hl, n => by unfold toP; exact .tup (s.sqN h).sqT (Reps.dp s r (by simpa only [noObj] using n))
  | _, _, .lst h r hl, n => by unfold toP; exact .lst (s.sqL h) (Reps.dp s r (by simpa only [noObj] using n))
  | _, _, .dct h r hk hl, n => by simp [noObj] at n
theorem Reps.dp (s : Sub F H) : ∀ {vs : List V} {ds : List D}, Reps w F vs ds → noObjs ds = true → DpAll w.K H vs (toPs ds)
  | _, _, .nil, _ => .nil
  | _, _, .cons h r, n => by
    simp only [noObjs, Bool.and_eq_true] at n
    exact .cons (Rep.dp s h n.1) (Reps.dp s r n.2)
end
theorem Bor.dp {v : V} {d : D} (s : Sub F H) (h : Bor w F H v d) (n : noObj d = true) : Dp w.K H v (toP d) := by
  rcases h with h | ⟨a, vs, ys, rfl, rfl, h, r, hl⟩
  · exact h.dp s n
  · unfold toP; exact .lst (.inl (.inl h)) (r.dp s (by simpa only [noObj] using n))
mutual
theorem Rep.lay : ∀ {v : V} {d : D}, Rep w F v d → (toP d).canLay0 = true
  | _, _, .non => by simp [toP, PyData.canLay0]
  | _, _, .bl b => by simp [toP, PyData.canLay0]
  | _, _, .int i => by simp [toP, PyData.canLay0]
  | _, _, .str x h hl => by simpa [toP, PyData.canLay0] using h
  | _, _, .tup h r hl => by simp only [toP, PyData.canLay0]; exact Reps.lay r
  | _, _, .lst h r hl => by simp only [toP, PyData.canLay0]; exact Reps.lay r
  | _, _, .dct h r hk hl => by simp [toP, PyData.canLay0]
theorem Reps.lay : ∀ {vs : List V} {ds : List D}, Reps w F vs ds → PyData.canLayAll0 (toPs ds) = true
  | _, _, .nil => by simp [toPs, PyData.canLayAll0]
  | _, _, .cons h r => by simp only [toPs, PyData.canLayAll0, Rep.lay h, Reps.lay r, Bool.and_self]
end
theorem Bor.lay {v : V} {d : D} (h : Bor w F H v d) : (toP d).canLay0 = true := by
  rcases h with h | ⟨a, vs, ys, rfl, rfl, h, r, hl⟩
  · exact h.lay
  · simp only [toP, PyData.canLay0]; exact r.lay
mutual
theorem flatN_depth : ∀ (n : Nat) (d : D), flatN n d = true → (toP d).depth ≤ n
  | 0, _, h => by simp [flatN] at h
  | n + 1, .tup xs, h => by
    simp only [flatN] at h
    have := flatNs_depth n xs h
    simp only [toP, PyData.depth]; omega
  | n + 1, .lst xs, h => by
    simp only [flatN] at h
    have := flatNs_depth n xs h
    simp only [toP, PyData.depth]; omega
  | n + 1, .obj _ _, h => by simp [flatN] at h
  | n + 1, .non, _ => by simp [toP, PyData.depth]
  | n + 1, .bl _, _ => by simp [toP, PyData.depth]
  | n + 1, .int _, _ => by simp [toP, PyData.depth]
  | n + 1, .str _, _ => by simp [toP, PyData.depth]
theorem flatNs_depth : ∀ (n : Nat) (ds : List D), flatNs n ds = true → PyData.depthAll (toPs ds) ≤ n
  | _, [], _ => by simp [toPs, PyData.depthAll]
  | n, x :: xs, h => by
    simp only [flatNs, Bool.and_eq_true] at h
    have h1 := flatN_depth n x h.1
    have h2 := flatNs_depth n xs h.2
    simp only [toPs, PyData.depthAll]; omega
end
mutual
theorem eqv_toP : ∀ (x y : D), noObj x = true → noObj y = true → eqv x y = PyData.eqv (toP x) (toP y)
  | .non, y, _, hy => by cases y <;> simp_all [eqv, toP, PyData.eqv, noObj]
  | .bl b, y, _, hy => by cases y <;> simp_all [eqv, toP, PyData.eqv, noObj]
  | .int b, y, _, hy => by cases y <;> simp_all [eqv, toP, PyData.eqv, noObj]
  | .str b, y, _, hy => by cases y <;> simp_all [eqv, toP, PyData.eqv, noObj]
  | .obj _ _, y, hx, _ => by simp [noObj] at hx
  | .tup xs, y, hx, hy => by
    cases y with
    | tup ys =>
      simp only [noObj] at hx hy
      simp only [eqv, toP, PyData.eqv]
      exact eqvs_toP xs ys hx hy
    | obj _ _ => simp [noObj] at hy
    | _ => simp [eqv, toP, PyData.eqv]
  | .lst xs, y, hx, hy => by
    cases y with
    | lst ys =>
      simp only [noObj] at hx hy
      simp only [eqv, toP, PyData.eqv]
      exact eqvs_toP xs ys hx hy
    | obj _ _ => simp [noObj] at hy
    | _ => simp [eqv, toP, PyData.eqv]
theorem eqvs_toP : ∀ (xs ys : List D), noObjs xs = true → noObjs ys = true → eqvs xs ys = PyData.eqvAll (toPs xs) (toPs ys)
  | [], ys, _, _ => by cases ys <;> simp [eqvs, toPs, PyData.eqvAll]
  | x :: xs, [], _, _ => by simp [eqvs, toPs, PyData.eqvAll]
  | x :: xs, y :: ys, hx, hy => by
    simp only [noObjs, Bool.and_eq_true] at hx hy
    simp only [eqvs, toPs, PyData.eqvAll]
    rw [eqv_toP x y hx.1 hy.1, eqvs_toP xs ys hx.2 hy.2]
end
end
structure Pst (F H F' H' : Hp) : Prop where
  ff : Sub F F'
  fh : Sub F' H'
  hh : ∀ a o, H a = some o → H' a = some o ∧ (F a = none → F' a = none)
theorem Pst.refl {F H : Hp} (s : Sub F H) : Pst F H F H := ⟨.refl _, s, fun _ _ h => ⟨h, fun z => z⟩⟩
theorem Pst.trans {F H F1 H1 F2 H2 : Hp} (a : Pst F H F1 H1) (b : Pst F1 H1 F2 H2) : Pst F H F2 H2 :=
  ⟨a.ff.trans b.ff, b.fh, fun c o h => ⟨(b.hh c o (a.hh c o h).1).1, fun z => (b.hh c o (a.hh c o h).1).2 ((a.hh c o h).2 z)⟩⟩
/-- a new object, known to H alone -/
theorem Pst.new {F H : Hp} {p : Addr} {o : HO} (s : Sub F H) (hp : H p = none) : Pst F H F (upd H p o) :=
  ⟨.refl _, s.trans (sub_upd hp), fun a u h => ⟨by rw [upd_ne (ne_of_none h hp)]; exact h, fun z => z⟩⟩
/-- .. laid for good -/
theorem Pst.newF {F H : Hp} {p : Addr} {o : HO} (s : Sub F H) (hp : H p = none) : Pst F H (upd F p o) (upd H p o) :=
  ⟨sub_upd (s.none hp), sub_upd2 s, fun a u h => ⟨by rw [upd_ne (ne_of_none h hp)]; exact h, fun z => by rw [upd_ne (ne_of_none h hp)]; exact z⟩⟩
section
variable (w : Wo) (cx : List (Addr × Str × Option Addr)) (F H : Hp)
/-- an object's fields: what each holds; the lists of its own -/
inductive FldsR : List (Str × Fld) → List (Str × V) → List Addr → Prop
  | nil : FldsR [] [] []
  | sh {f : Str} {d : D} {v : V} {fs : List (Str × Fld)} {vs : List (Str × V)} {A : List Addr} (h : Rep w F v d) (r : FldsR fs vs A) : FldsR ((f, .sh d) :: fs) ((f, v) :: vs) A
  | ow {f : Str} {xs : List D} {a : Addr} {us : List V} {fs : List (Str × Fld)} {vs : List (Str × V)} {A : List Addr} (h : H a = some (.lst us)) (n : F a = none) (q : Reps w F us xs) (hl : us.length ≤ limN) (r : FldsR fs vs A) :
      FldsR ((f, .ow xs) :: fs) ((f, .ref a) :: vs) (a :: A)
inductive SlotR : Slot → Option V → List Addr → Prop
  | un (o : Option V) : SlotR .un o []
  | sh {d : D} {v : V} (h : Rep w F v d) : SlotR (.sh d) (some v) []
  | ow {p : Bool} {xs : List D} {a : Addr} {vs : List V} (h : H a = some (.lst vs)) (n : F a = none) (r : Reps w F vs xs) (hl : vs.length ≤ limN) : SlotR (.ow p xs) (some (.ref a)) [a]
  | ob {p : Bool} {c : Str} {fs : List (Str × Fld)} {a dx : Addr} {vs : List (Str × V)} {A : List Addr} (h : H a = some (.ins (w.ca c) dx vs)) (n : F a = none) (r : FldsR w F H fs vs A) (hc : c ∈ w.cl) (hn : ∀ y ∈ fs, y.1 ∈ clsF c) : SlotR (.ob p c fs) (some (.ref a)) (a :: A)
  | exn {c : Str} {a : Addr} {dd : Option Addr} (h : (a, c, dd) ∈ cx) : SlotR (.exn c none) (some (.ref a)) []
  | exnD {c f : Str} {a dd : Addr} {v : V} {d : D} (h : (a, c, some dd) ∈ cx) (hf : w.xf c = some f) (q : F dd = some (.xd [(f, v)])) (r : Rep w F v d) : SlotR (.exn c (some d)) (some (.ref a)) []
end
/-- the state -/
structure RS (w : Wo) (cx : List (Addr × Str × Option Addr)) (s : Sg) (F : Hp) (σ : L2.St) (H : Hp) (own : Nat → List Addr) : Prop where
  len : s.length = σ.length
  fh : Sub F H
  sl : ∀ i x, s[i]? = some x → ∃ o, σ[i]? = some o ∧ SlotR w cx F H x o (own i)
  out : ∀ i, s.length ≤ i → own i = []
  nd : ∀ i, (own i).Nodup
  dj : ∀ i j a, i ≠ j → a ∈ own i → a ∉ own j
section
variable {w : Wo} {cx : List (Addr × Str × Option Addr)} {s : Sg} {F H F' H' : Hp} {σ : L2.St} {own : Nat → List Addr}
theorem FldsR.owned {fs : List (Str × Fld)} {vs : List (Str × V)} {A : List Addr} (h : FldsR w F H fs vs A) : ∀ a ∈ A, (∃ o, H a = some o) ∧ F a = none := by
  induction h with
  | nil => intro a ha; cases ha
  | sh h r ih => exact ih
  | ow h n q hl r ih =>
    intro b hb
    rcases List.mem_cons.mp hb with rfl | hb
    · exact ⟨⟨_, h⟩, n⟩
    · exact ih b hb
theorem SlotR.owned {x : Slot} {o : Option V} {A : List Addr} (h : SlotR w cx F H x o A) : ∀ a ∈ A, (∃ o, H a = some o) ∧ F a = none := by
  cases h with
  | un => intro a ha; cases ha
  | sh => intro a ha; cases ha
  | ow h n r hl =>
    intro b hb
    obtain rfl : b = _ := by simpa using hb
    exact ⟨⟨_, h⟩, n⟩
  | ob h n r _ _ =>
    intro b hb
    rcases List.mem_cons.mp hb with rfl | hb
    · exact ⟨⟨_, h⟩, n⟩
    · exact r.owned b hb
  | exn => intro a ha; cases ha
  | exnD => intro a ha; cases ha
/-- what is owned stays, the rest grows -/
theorem FldsR.step {fs : List (Str × Fld)} {vs : List (Str × V)} {A : List Addr} (h : FldsR w F H fs vs A) (ff : Sub F F') (k : ∀ a ∈ A, ∀ o, H a = some o → H' a = some o ∧ F' a = none) : FldsR w F' H' fs vs A := by
  induction h with
  | nil => exact .nil
  | sh h r ih => exact .sh (h.mono ff) (ih k)
  | ow h n q hl r ih =>
    obtain ⟨h1, h2⟩ := k _ List.mem_cons_self _ h
    exact .ow h1 h2 (q.mono ff) hl (ih fun a ha => k a (List.mem_cons_of_mem _ ha))
theorem SlotR.step {x : Slot} {o : Option V} {A : List Addr} (h : SlotR w cx F H x o A) (ff : Sub F F') (k : ∀ a ∈ A, ∀ o, H a = some o → H' a = some o ∧ F' a = none) : SlotR w cx F' H' x o A := by
  cases h with
  | un => exact .un _
  | sh h => exact .sh (h.mono ff)
  | ow h n r hl =>
    obtain ⟨h1, h2⟩ := k _ List.mem_cons_self _ h
    exact .ow h1 h2 (r.mono ff) hl
  | ob h n r hc hn =>
    obtain ⟨h1, h2⟩ := k _ List.mem_cons_self _ h
    exact .ob h1 h2 (r.step ff fun a ha => k a (List.mem_cons_of_mem _ ha)) hc hn
  | exn h => exact .exn h
  | exnD h hf q r => exact .exnD h hf (ff _ _ q) (r.mono ff)
theorem RS.owned (h : RS w cx s F σ H own) {i : Nat} {a : Addr} (ha : a ∈ own i) : (∃ o, H a = some o) ∧ F a = none := by
  by_cases hi : i < s.length
  · obtain ⟨o, _, r⟩ := h.sl i _ (List.getElem?_eq_getElem hi)
    exact r.owned a ha
  · rw [h.out i (by omega)] at ha; cases ha
theorem RS.pst (h : RS w cx s F σ H own) (p : Pst F H F' H') : RS w cx s F' σ H' own := by
  refine ⟨h.len, p.fh, fun i x e => ?_, h.out, h.nd, h.dj⟩
  obtain ⟨o, e1, r⟩ := h.sl i x e
  refine ⟨o, e1, r.step p.ff fun a ha u q => ?_⟩
  exact ⟨(p.hh a u q).1, (p.hh a u q).2 (r.owned a ha).2⟩
/-- a new owned list is laid for good -/
theorem RS.frz (h : RS w cx s F σ H own) {a : Addr} {u : HO} (ha : H a = some u) (n : F a = none) (no : ∀ i, a ∉ own i) : RS w cx s (upd F a u) σ H own := by
  refine ⟨h.len, sub_upd1 h.fh ha, fun i x e => ?_, h.out, h.nd, h.dj⟩
  obtain ⟨o, e1, r⟩ := h.sl i x e
  refine ⟨o, e1, r.step (sub_upd n) fun b hb v q => ⟨q, ?_⟩⟩
  have hne : b ≠ a := fun z => by rw [z] at hb; exact no i hb
  rw [upd_ne hne]
  exact (r.owned b hb).2
def ownSet (own : Nat → List Addr) (i : Nat) (A : List Addr) : Nat → List Addr := fun j => if j = i then A else own j
theorem ownSet_same {i : Nat} {A : List Addr} : ownSet own i A i = A := if_pos rfl
theorem ownSet_ne {i j : Nat} {A : List Addr} (h : j ≠ i) : ownSet own i A j = own j := if_neg h
/-- the slot i anew, the name's value with it or not -/
theorem RS.put (h : RS w cx s F σ H own) {i : Nat} {x : Slot} {o : Option V} {A : List Addr} {σ' : L2.St} (hi : i < s.length) (hσ : σ'.length = σ.length) (he : σ'[i]? = some o) (hn : ∀ j, j ≠ i → σ'[j]? = σ[j]?)
    (r : SlotR w cx F H x o A) (nd : A.Nodup) (dj : ∀ a ∈ A, ∀ j, j ≠ i → a ∉ own j) : RS w cx (s.set i x) F σ' H (ownSet own i A) := by
  refine ⟨by rw [List.length_set, hσ]; exact h.len, h.fh, fun j y e => ?_, fun j hj => ?_, fun j => ?_, fun j k a hjk ha hb => ?_⟩
  · by_cases hj : j = i
    · subst hj
      rw [List.getElem?_set_self hi] at e
      cases e
      exact ⟨o, he, by rw [ownSet_same]; exact r⟩
    · rw [List.getElem?_set_ne (Ne.symm hj)] at e
      obtain ⟨o', e', r'⟩ := h.sl j y e
      exact ⟨o', by rw [hn j hj]; exact e', by rw [ownSet_ne hj]; exact r'⟩
  · rw [List.length_set] at hj
    rw [ownSet_ne (by omega)]
    exact h.out j hj
  · by_cases hj : j = i
    · subst hj; rw [ownSet_same]; exact nd
    · rw [ownSet_ne hj]; exact h.nd j
  · by_cases hj : j = i
    · subst hj
      rw [ownSet_same] at ha
      rw [ownSet_ne (Ne.symm hjk)] at hb
      exact dj a ha k (Ne.symm hjk) hb
    · rw [ownSet_ne hj] at ha
      by_cases hk : k = i
      · subst hk
        rw [ownSet_same] at hb
        exact dj a hb j hj ha
      · rw [ownSet_ne hk] at hb
        exact h.dj j k a hjk ha hb
end
/-- nz: the objects of the slots are not changed either -/
structure Frm (nz : Bool) (F H : Hp) (own : Nat → List Addr) (F' H' : Hp) (own' : Nat → List Addr) : Prop where
  ff : Sub F F'
  hh : ∀ a o, H a = some o → (∀ i, a ∉ own i) → H' a = some o ∧ (F a = none → F' a = none)
  hn : nz = true → ∀ a o, H a = some o → H' a = some o
  oo : ∀ i a, a ∈ own' i → a ∈ own i ∨ H a = none
  on : nz = true → ∀ i a, a ∈ own' i → a ∈ own i
  dm : ∀ a, H' a = none → H a = none
section
variable {nz nz' : Bool} {F H F1 H1 F2 H2 : Hp} {own own1 own2 : Nat → List Addr}
theorem Frm.refl : Frm nz F H own F H own := ⟨.refl _, fun _ _ h _ => ⟨h, fun z => z⟩, fun _ _ _ h => h, fun _ _ h => .inl h, fun _ _ _ h => h, fun _ h => h⟩
theorem Frm.out (a : Frm nz F H own F1 H1 own1) {c : Addr} {o : HO} (h : H c = some o) (hn : ∀ i, c ∉ own i) : ∀ i, c ∉ own1 i := fun i q => by
  rcases a.oo i c q with z | z
  · exact hn i z
  · rw [h] at z; cases z
theorem Frm.trans (a : Frm nz F H own F1 H1 own1) (b : Frm nz' F1 H1 own1 F2 H2 own2) : Frm (nz && nz') F H own F2 H2 own2 := by
  refine ⟨a.ff.trans b.ff, fun c o h hn => ?_, fun z c o h => ?_, fun i c h => ?_, fun z i c h => ?_, fun c h => a.dm c (b.dm c h)⟩
  · obtain ⟨h1, h2⟩ := a.hh c o h hn
    obtain ⟨h3, h4⟩ := b.hh c o h1 (a.out h hn)
    exact ⟨h3, fun z => h4 (h2 z)⟩
  · rw [Bool.and_eq_true] at z
    exact b.hn z.2 c o (a.hn z.1 c o h)
  · rcases b.oo i c h with z | z
    · exact a.oo i c z
    · exact .inr (a.dm c z)
  · rw [Bool.and_eq_true] at z
    exact a.on z.1 i c (b.on z.2 i c h)
theorem Pst.dm (p : Pst F H F1 H1) (a : Addr) (h : H1 a = none) : H a = none := by
  cases q : H a with
  | none => rfl
  | some o => rw [(p.hh a o q).1] at h; cases h
theorem Frm.pst (p : Pst F H F1 H1) : Frm nz F H own F1 H1 own := ⟨p.ff, fun a o h _ => p.hh a o h, fun _ a o h => (p.hh a o h).1, fun _ _ h => .inl h, fun _ _ _ h => h, p.dm⟩
theorem Frm.weak (a : Frm nz F H own F1 H1 own1) (h : nz' = true → nz = true) : Frm nz' F H own F1 H1 own1 := ⟨a.ff, a.hh, fun z => a.hn (h z), a.oo, fun z => a.on (h z), a.dm⟩
end
end IL
end
section
set_option maxHeartbeats 1000000
namespace IL
open PySem PySem.Spec PyProof.Rows L2
section
variable {X : Cx}
/-- cases that each ask for one text -/
inductive Words (X : Cx) : List MatchCase → List (Str × TS) → Prop
  | nil : Words X [] []
  | cons {w : Str} {k : Nat} {p q : Pos} {b : List Stmt} {t : TS} {cs : List MatchCase} {ts : List (Str × TS)} (h : PSs X b t) (r : Words X cs ts) : Words X (⟨.MatchValue (.Constant (.str w) k p) q, none, b⟩ :: cs) ((w, t) :: ts)
/-- the body of the word's case, or on -/
def tWord (z : Str) : List (Str × TS) → TS
  | [] => fun D σ H => D.nx σ H
  | (w, t) :: r => fun D σ H => if z = w then t D σ H else tWord z r D σ H
theorem words_run {z : Str} {t : Tok} : ∀ {cs : List MatchCase} {ts : List (Str × TS)}, Words X cs ts → ∀ (first : Bool) (pins : List (Addr × Obj)) (s : Shared) (σ : L2.St) (H : Hp) (D : Ends), Inv X pins σ H s → tWord z ts D σ H →
    wpAny (model X.prog X.w) X.A (matchCases cs X.env (.str z t) first) (SP X pins D) X.xe s
  | _, _, .nil, _, _, _, σ, H, _, I, h => wpAny_matchCases_nil ⟨σ, H, I, h⟩
  | _, _, .cons (w := w) (b := b) hb r, _, pins, s, σ, H, D, I, h => by
    refine wpAny_matchCases_cons (wpAny_matchPattern_Value (Calls.Constant_str ?_))
    refine PyProof.Rows.eq_str (wpAny_truthy_bool ?_)
    have I2 := I.tok (s.toks + 1)
    by_cases e : z = w
    · have hb' : (z == w) = true := by rw [e]; exact beq_self_eq_true w
      rw [hb']
      have h' : _ := h
      rw [tWord, if_pos e] at h'
      exact wpAny_assignInOrder_none (hb.run pins _ σ H D (I.tok _) h')
    · have hb' : (z == w) = false := beq_eq_false_iff_ne.mpr e
      rw [hb']
      have h' : _ := h
      rw [tWord, if_neg e] at h'
      exact words_run r false pins _ σ H D (I.tok _) h'
theorem ps_match {e : Expr} {te : TE} {cs : List MatchCase} {ts : List (Str × TS)} {pos : Pos} (he : PE X e te) (hc : Words X cs ts) : PS X (.Match e cs pos) (fun D σ H => te σ H fun x H1 => ∃ z, x = .str z ∧ tWord z ts D σ H1) := by
  refine ⟨fun pins s σ H D I h => wpAny_Match (thn (he.run pins s σ H _ I h) fun v s1 ⟨x, H1, I1, r1, z, ex, q⟩ => ?_)⟩
  subst ex
  obtain ⟨t, rfl⟩ := r1
  exact words_run hc true pins s1 σ H1 D I1 q
end
end IL
end
section
set_option maxHeartbeats 3200000
namespace IL
open PySem PySem.Spec PyProof.Rows L2
/-- the texts met so far, each once -/
def met : List Str → List Str → List Str
  | [], acc => acc
  | x :: xs, acc => met xs (if x ∈ acc then acc else x :: acc)
/-- how many different texts -/
def kinds (xs : List Str) : Nat := (met xs []).length
def metAt (xs : List Str) (i : Nat) : List Str := met (xs.take i) []
theorem met_app : ∀ (xs ys acc : List Str), met (xs ++ ys) acc = met ys (met xs acc)
  | [], _, _ => rfl
  | x :: xs, ys, acc => by rw [List.cons_append, met, met_app xs ys, met]
theorem metAt_succ {xs : List Str} {i : Nat} (h : i < xs.length) : metAt xs (i + 1) = if xs.getD i Str.empty ∈ metAt xs i then metAt xs i else xs.getD i Str.empty :: metAt xs i := by
  unfold metAt
  rw [List.take_succ_eq_append_getElem h, met_app, List.getD_eq_getElem?_getD, List.getElem?_eq_getElem h]
  rfl
theorem metAt_le (xs : List Str) : ∀ i, i ≤ xs.length → (metAt xs i).length ≤ i
  | 0, _ => by simp [metAt, met]
  | i + 1, h => by
    have ih := metAt_le xs i (by omega)
    rw [metAt_succ (by omega)]
    split
    · omega
    · rw [List.length_cons]; omega
/-- the set at S holds the texts met in the first i -/
def Held (prog : Program) (w : World) (h : Heap) (S : Addr) (xs : List Str) (i : Nat) : Prop := h.SetOf (strKind prog w) S (fun k => decide (k ∈ metAt xs i)) (metAt xs i).length
theorem Held.stay {prog : Program} {w : World} {h h' : Heap} {S : Addr} {xs : List Str} {i : Nat} (a : Held prog w h S xs i) (k : ∀ o, h.get? S = some o → h'.get? S = some o) : Held prog w h' S xs i := by
  obtain ⟨o, es, ep, t, ho, r⟩ := a
  exact ⟨o, es, ep, t, k o ho, r⟩
theorem Held.next {prog : Program} {w : World} {h : Heap} {S : Addr} {xs : List Str} {i : Nat} (hi : i < xs.length) (a : h.SetOf (strKind prog w) S (fun k => decide (k ∈ metAt xs i) || decide (k = xs.getD i Str.empty)) (if decide (xs.getD i Str.empty ∈ metAt xs i) = true then (metAt xs i).length else (metAt xs i).length + 1)) : Held prog w h S xs (i + 1) := by
  unfold Held
  have e := metAt_succ hi
  generalize metAt xs (i + 1) = M' at *
  generalize metAt xs i = M at *
  generalize xs.getD i Str.empty = x at *
  subst e
  by_cases m : x ∈ M
  · rw [if_pos (by simpa using m)] at a
    rw [if_pos m]
    refine SetOf_congr a (fun k => ?_) rfl
    by_cases e : k = x
    · rw [e]; simp [m]
    · simp [e]
  · rw [if_neg (by simpa using m)] at a
    rw [if_neg m]
    refine SetOf_congr a (fun k => ?_) rfl
    by_cases e : k = x <;> simp [e]
section
variable {prog : Program} {w : World} {A : Around} {R : Result → Shared → Prop} {I : Addr} {fp wr : List Addr} {G : Array GenState → Array GenState → Prop} {P : Nat → Value → Prop} {St : Nat → Shared → Prop} {xs : List Str}
theorem run_fill (W : WalksS prog w A.in1 I fp wr G xs.length P St) {S : Addr} (hS : S ∉ fp) (room : xs.length + 1 < scanBound) (read : ∀ i v, P i v → ∃ t, v = .str (xs.getD i Str.empty) t) (m : Nat) :
    ∀ (i : Nat) (s : Shared), i + m = xs.length → St i s → Held prog w s.heap S xs i →
      (∀ s', Moved (S :: wr) G s s' → Held prog w s'.heap S xs xs.length → R (.ok (.ret .none)) s') →
      codeAny (model prog w) A (.builtin "set.update.loop" ⟨[.ref S, .ref I], []⟩) R s := by
  have nw : S ∉ wr := fun q => hS (W.sub S q)
  have wider : ∀ b ∈ wr, b ∈ S :: wr := fun _ q => List.mem_cons_of_mem _ q
  induction m with
  | zero =>
    intro i s e st held fin
    obtain rfl : i = xs.length := by omega
    refine codeAny_builtin F.entry_set_update_loop ?_
    rw [Around.under_plainId F.plain_set_update_loop _]
    refine wpAny_bind (m := pyNext (.ref I)) (W.done s _ _ st fun s' mv => ?_)
    exact wpAny_pure (fin s' (mv.mono wider) (held.stay (mv.heap S · nw)))
  | succ m ih =>
    intro i s e st held fin
    have lt : i < xs.length := by omega
    refine codeAny_builtin F.entry_set_update_loop ?_
    rw [Around.under_plainId F.plain_set_update_loop _]
    refine wpAny_bind (m := pyNext (.ref I)) (W.item i s _ _ lt st fun v s' pv st' mv => ?_)
    obtain ⟨t, rfl⟩ := read i v pv
    have held' := held.stay (mv.heap S · nw)
    have small := metAt_le xs i (by omega)
    refine wpAny_bind (m := holding [Value.str (xs.getD i Str.empty) t] (setAdd S (.str (xs.getD i Str.empty) t))) (wpAny_holding ?_)
    unfold setAdd
    refine wpAny_holding (wpAny_bind ((strKind prog w).pyHash (k := xs.getD i Str.empty) (strKind_is _ _ _ _) ?_))
    refine wpAny_setAddHashed_of (knd := strKind prog w) (s := { s' with toks := s'.toks + 1 }) (strKind_is _ _ _ _) rfl held' (by omega) fun h' same after => ?_
    have all : ∀ b, b ≠ S → ∀ o, s'.heap.get? b = some o → h'.get? b = some o := fun b nb o q => by rw [same.2 b nb]; exact q
    refine wpAny_pure ⟨plainId_quiet F.plain_set_update_loop _, ih (i + 1) _ (by omega) (W.frame _ s' _ _ st' (Nat.le_succ _) fun b hb o q => all b (fun z => hS (z ▸ hb)) o q) (Held.next lt after) fun s2 mv2 held2 => fin s2 ?_ held2⟩
    exact Moved.trans W.gtrans ((mv.mono wider).then_heap (Nat.le_succ _) fun b o nb q => all b (fun z => nb (z ▸ List.mem_cons_self)) o q) mv2
end
/-- an empty set, as it is made -/
abbrev noneS (led : Bool) : Obj := { cls := .type "set", dict := none, data := .set #[] 0 (.fresh 0 0 led) }
section
variable {prog : Program} {w : World} {A : Around} {E : Value → Shared → Prop} {s : Shared} {l : Addr} {items : Array Value} {xs : List Str}
/-- what set.__init__ leaves: the new set filled, all older objects as before -/
def Filled (prog : Program) (w : World) (xs : List Str) (s s2 : Shared) : Prop := ∃ h' tk, s2 = { s with heap := h', toks := tk } ∧ Held prog w h' s.heap.objs.size xs xs.length ∧ ∀ b o, b < s.heap.objs.size → s.heap.get? b = some o → h'.get? b = some o
theorem call_set_any {Q : Value → Shared → Prop} (calm : A.handled = none) (hl : s.heap.IsList l items) (hi : StrsAre items.toList xs) (room : xs.length + 1 < scanBound)
    (h : ∀ s2, Filled prog w xs s s2 → Q (.ref s.heap.objs.size) s2) : wpAny (model prog w) A (call (.type "set") [.ref l]) Q E s := by
  have len : xs.length = items.size := by rw [← StrsAre.len_eq hi, Array.length_toList]
  have ll : l < s.heap.objs.size := by obtain ⟨o, ho, _⟩ := hl; exact Heap.lt_size ho
  obtain ⟨c, tl, mro⟩ := F.called_set.mro
  have f1 := F.called_set.made
  have f2 := F.called_set.sub
  have f3 := F.called_set.notType
  have f4 := F.called_set.canCreate
  have f5 := PySem.F.typeCall_set_1 (.ref l)
  refine wpAny_call (codeAny_of_tree ?_)
  show wpAny _ _ (callAny (.type "set") _) _ _ _
  refine wpAny_pure ⟨Code.quiet_builtin _ (by decide +kernel), codeAny_builtin F.entry_type_call ?_⟩
  rw [Around.under_plain (weight_type_call_type "set" [.ref l] []) rfl]
  repeat (any_goals (first | assumption | wp_step))
  refine codeAny_mono (code_set_new_1 (.ref l) (E := E) (Q₁ := fun r s1 => ∃ led, r = .ref s.heap.objs.size ∧ s1 = { s with heap := s.heap.push (noneS led) }) fun led => ⟨led, rfl, rfl⟩) fun r s1 hr => ?_
  match r, hr with
  | .error e, hr => exact hr
  | .ok (.ret r), ⟨led, e1, e2⟩ =>
    subst e1 e2
    have at0 : (s.heap.push (noneS led)).get? s.heap.objs.size = some (noneS led) := Heap.get?_push_size _ rfl
    have ty : Shared.TypeIs { s with heap := s.heap.push (noneS led) } (.ref s.heap.objs.size) "set" := ⟨_, at0, rfl⟩
    have f6 := F.called_set.init.lookup
    have f7 := F.called_set.init.bind (.ref s.heap.objs.size)
    repeat (any_goals (first | assumption | wp_step))
    refine codeAny_mono (codeAny_call_builtin (R := wants (fun r s2 => r = .none ∧ Filled prog w xs s s2) E) F.called_set.init.plain F.entry_set_init (check_set_init_1 ty ?_)) fun r2 s2 hr2 => ?_
    · have hl1 : (s.heap.push (noneS led)).IsList l items := hl.push _
      obtain ⟨⟨cl, di, da, sl⟩, ho, rfl, nl, rfl⟩ := id hl
      have ho1 : (s.heap.push (noneS led)).get? l = some { cls := .type "list", dict := di, data := .seq items nl, slots := sl } := Heap.get?_push_of_some _ ho
      have g1 := PySem.F.sub_list_set
      have g2 := PySem.F.sub_list_frozenset
      have g3 : (Value.type "list" == Value.type "dict") = false := by decide
      unfold Builtin.«set.__init__» noKeywords Builtin.Frozenset.updateFrom
      generalize e : pyIter = it
      wp_walk
      subst e
      refine wpAny_pyIter_list hl1 (wpAny_bind (wpAny_runValue ?_))
      have two : (s.heap.push (noneS led)).objs.size = s.heap.objs.size + 1 := Heap.size_push _ _
      have W := (Walks.list (prog := prog) (w := w) (A := A.in1.in1.in1) (by simp [calm]) ((s.heap.push (noneS led)).objs.size) l (Nat.ne_of_lt (by rw [two]; exact Nat.lt_succ_of_lt ll)) items).toS
      rw [← len] at W
      refine run_fill W (S := s.heap.objs.size) (fun q => by
        rw [two] at q
        rcases List.mem_cons.mp q with q | q
        · exact absurd q (Nat.ne_of_lt (Nat.lt_succ_self _))
        · exact absurd (List.mem_singleton.mp q) (Nat.ne_of_gt ll)) room (fun i v hv => SS.strs_at hi i v (by rw [Array.getElem?_toList]; exact hv)) xs.length 0 _ (by omega) ⟨⟨_, Heap.get?_push_size _ rfl, rfl, rfl⟩, hl1.push _⟩ ?_ fun s3 mv held => ?_
      · exact SetOf_congr ((setObjOf_fresh (knd := strKind prog w) led).setOf (Heap.get?_push_of_some _ at0) (by unfold scanBound; omega)) (fun _ => rfl) rfl
      · obtain ⟨h3, g3, d3, t3, o3⟩ := s3
        obtain rfl : g3 = s.gens := mv.gens
        obtain rfl : d3 = s.drawn := mv.drawn
        obtain rfl : o3 = s.os := mv.os
        show wpAny _ _ _ _ _ _
        refine wpAny_pure ?_
        show wpAny _ _ (ret Value.none) _ _ _
        refine wpAny_pure ⟨rfl, h3, t3, rfl, held, fun b o lt q => mv.heap b o ?_ (Heap.get?_push_of_some _ (Heap.get?_push_of_some _ q))⟩
        intro q
        rw [two] at q
        rcases List.mem_cons.mp q with q | q
        · exact absurd q (Nat.ne_of_lt lt)
        · exact absurd (List.mem_singleton.mp q) (Nat.ne_of_lt (Nat.lt_succ_of_lt lt))
    · match r2, hr2 with
      | .error e, hr2 => exact hr2
      | .ok (.ret r2), ⟨e1, hF⟩ =>
        subst e1
        obtain ⟨h', tk, rfl, hH, hk⟩ := id hF
        repeat (any_goals (first | assumption | wp_step))
        exact h _ hF
end
end IL
end
section
set_option maxHeartbeats 1000000
namespace IL
open PySem PySem.Spec PyProof.Rows L2
/-- a value that an operation gave, made where H0 stood -/
def NV (w : Wo) (H0 F H : Hp) (v : V) (d : D) (fr : Bool) : Prop :=
  (fr = false ∧ Rep w F v d) ∨ (fr = true ∧ ∃ a vs xs, v = .ref a ∧ d = .lst xs ∧ H0 a = none ∧ H a = some (.lst vs) ∧ F a = none ∧ Reps w F vs xs ∧ vs.length ≤ limN)
/-- what is wanted behind an operation that gives d -/
def Aft (w : Wo) (F H : Hp) (d : D) (fr : Bool) (Q : VK) : Prop := ∀ F' H' v, Pst F H F' H' → NV w H F' H' v d fr → Q v H'
section
variable {w : Wo} {F H : Hp} {d : D} {fr : Bool} {Q : VK}
theorem Aft.data {v : V} (h : Aft w F H d false Q) (s : Sub F H) (r : Rep w F v d) : Q v H := h F H v (.refl s) (.inl ⟨rfl, r⟩)
/-- a tuple's object -/
def tupO (us : List Value) : Obj := { cls := .type "tuple", data := .seq us.toArray }
theorem Aft.tup {vs : List V} {xs : List D} (h : Aft w F H (.tup xs) false Q) (s : Sub F H) (r : Reps w F vs xs) (hl : vs.length ≤ limN) {p : Addr} (hp : H p = none) (us : List Value) : Q (.ref p) (upd H p (.frz (tupO us) (.tup vs))) :=
  h _ _ _ (.newF s hp) (.inl ⟨rfl, .tup (.inl ⟨_, upd_same, rfl⟩) (r.mono (sub_upd (s.none hp))) hl⟩)
theorem Aft.lst {vs : List V} {xs : List D} (h : Aft w F H (.lst xs) true Q) (s : Sub F H) (r : Reps w F vs xs) (hl : vs.length ≤ limN) {p : Addr} (hp : H p = none) : Q (.ref p) (upd H p (.lst vs)) :=
  h _ _ _ (.new s hp) (.inr ⟨rfl, p, vs, xs, rfl, rfl, hp, upd_same, s.none hp, r, hl⟩)
end
def opB : Operator → Option Bop
  | .Add => some .add | .Sub => some .sub | .Mult => some .mul | .FloorDiv => some .fdiv | .Mod => some .mod | .Pow => some .pow | .LShift => some .shl | .RShift => some .shr | _ => none
def rBin (w : Wo) (o : Bop) : R2 := fun x y H Q => ∃ F dx dy r fr, Sub F H ∧ Bor w F H x dx ∧ Bor w F H y dy ∧ binD o dx dy = some (r, fr) ∧ Aft w F H r fr Q
theorem log2_lt (n : Nat) : n < 2 ^ (n.log2 + 1) := Nat.lt_log2_self
theorem mulOk_ok {i j : Int} (h : mulOk i j = true) : IntMulOk i j := by
  unfold mulOk at h
  rw [Bool.or_eq_true, Bool.or_eq_true] at h
  rcases h with (h | h) | h
  · have := of_decide_eq_true h
    exact .of_left (intBits_le_64 this.1 this.2)
  · have := of_decide_eq_true h
    exact .of_right (intBits_le_64 this.1 this.2)
  · have := of_decide_eq_true h
    exact IntMulOk.of_le (PyProof.Rows.intBits_le (log2_lt _)) (PyProof.Rows.intBits_le (log2_lt _)) (by omega)
section
variable {X : Cx}
/-- a new tuple laid, known to its object -/
theorem laid_tup {pins : List (Addr × Obj)} {s : Shared} {σ : L2.St} {H : Hp} {vs : List V} {us : List Value} {h' : Heap} (I : Inv X pins σ H { s with heap := h' }) (r : Vals vs us) (hl : vs.length ≤ sizeLine) :
    Inv X pins σ (upd H h'.objs.size (.frz (tupO us) (.tup vs))) { s with heap := h'.push (tupO us) } :=
  I.laid (t' := s.toks) (fun b ob q => Heap.get?_push_of_some _ q) (Nat.le_refl _) ⟨Heap.get?_push_size _ rfl, hl, us, r, ⟨_, Heap.get?_push_size _ rfl, rfl, _, rfl⟩⟩
def rCatN (K : PySem.W.Frag) : R2 := fun x y H Q => ∃ a b xs ys, x = .ref a ∧ y = .ref b ∧ SqT K H a xs ∧ SqT K H b ys ∧ xs.length + ys.length ≤ sizeLine ∧
  (xs = [] → Q (.ref b) H) ∧ (xs ≠ [] → ys = [] → Q (.ref a) H) ∧ (xs ≠ [] → ys ≠ [] → ∀ us p, H p = none → Q (.ref p) (upd H p (.frz (tupO us) (.tup (xs ++ ys)))))
theorem op_catN : OpR X (binaryOp .Add) (rCatN X.K) := by
  intro pins s σ H x y v u Q I rx ry h
  obtain ⟨a, b, xs, ys, rfl, rfl, ha, hb, hz, q0, q1, q2⟩ := h
  cases rx
  cases ry
  obtain ⟨its, r1, p1, _⟩ := I.tuple ha
  obtain ⟨its2, r2, p2, _⟩ := I.tuple hb
  by_cases hx : xs = []
  · subst hx
    cases r1
    exact cat_tup0 p1 p2 ⟨.ref b, H, I, rfl, q0 rfl⟩
  · refine HT.cat_tup p1 p2 (fun z => hx (r1.nil_iff.mp z)) (fun z => ⟨.ref a, H, I, rfl, q1 hx (r2.nil_iff.mp z)⟩) (fun z => ?_) (by rw [← r1.length, ← r2.length]; exact hz)
    exact ⟨.ref s.heap.objs.size, _, laid_tup (s := s) (h' := s.heap) I (r1.append r2) (by rw [List.length_append]; exact hz), rfl, q2 hx (fun w => z (r2.nil_iff.mpr w)) _ _ (I.hok.fresh (Nat.le_refl _))⟩
def rSlN (K : PySem.W.Frag) : V → Option Int → Option Int → Hp → VK → Prop := fun x lo hi H Q => ∃ a xs, x = .ref a ∧ SqT K H a xs ∧
  (HT.sIx xs.length 0 lo = 0 ∧ HT.sIx xs.length xs.length hi = xs.length → Q (.ref a) H) ∧ (¬ (HT.sIx xs.length 0 lo = 0 ∧ HT.sIx xs.length xs.length hi = xs.length) → ∀ us p, H p = none → Q (.ref p) (upd H p (.frz (tupO us) (.tup (cutV xs lo hi)))))
theorem sl_tupN : SlR X (rSlN X.K) := by
  intro pins s σ H x v vl vu lo hi sl Q I rx hs pl pu h
  obtain ⟨a, xs, rfl, hx, q1, q2⟩ := h
  by_cases hw : HT.sIx xs.length 0 lo = 0 ∧ HT.sIx xs.length xs.length hi = xs.length
  · exact sl_tupA pins s σ H _ v vl vu lo hi sl Q I rx hs pl pu ⟨a, xs, rfl, hx, q1, fun n => absurd hw n⟩
  · cases rx
    obtain ⟨its, r, ht, hz⟩ := I.tuple hx
    have hlen : its.toArray.size = xs.length := by rw [List.size_toArray]; exact r.length.symm
    refine ⟨"tuple", _, PyProof.Rows.slot_tuple_getitem.lookup, ht.typeIs, ?_⟩
    refine HT.getItem_tuple_cut ht hs pl pu (by rw [hlen]; exact hw) ?_ (by rw [hlen]; exact hz)
    rw [hlen]
    exact ⟨.ref s.heap.objs.size, _, laid_tup (s := s) (h' := s.heap) I ((r.drop (HT.sIx xs.length 0 lo)).take (HT.sIx xs.length xs.length hi - HT.sIx xs.length 0 lo)) (Nat.le_trans (cutV_length xs lo hi) hz), rfl, q2 hw _ _ (I.hok.fresh (Nat.le_refl _))⟩
theorem call_tupleN : CallR X (.type "tuple") (fun xs H Q => ∃ p ys, xs = [.ref p] ∧ ((SqL X.K H p ys ∧ ∀ us l, H l = none → Q (.ref l) (upd H l (.frz (tupO us) (.tup ys)))) ∨ (SqT X.K H p ys ∧ Q (.ref p) H))) := by
  intro pins s σ H xs us Q I r h
  obtain ⟨p, ys, rfl, h⟩ := h
  obtain ⟨u, rfl, rx⟩ := vals1 r
  cases rx
  rcases h with ⟨hq, q⟩ | ⟨hq, q⟩
  · obtain ⟨its, r', pl, hz⟩ := I.list hq
    have hlen := r'.length
    refine call_tuple_list pl.isList (fun h' kp => ?_) (by simp only [List.size_toArray] <;> omega)
    have I1 : Inv X pins σ H { s with heap := h' } := I.kept (t' := s.toks) kp
    exact ⟨.ref h'.objs.size, _, laid_tup (s := s) I1 r' hz, rfl, q _ _ (I1.hok.fresh (Nat.le_refl _))⟩
  · obtain ⟨its, r', pl, hz⟩ := I.tuple hq
    exact call_tuple_same pl ⟨.ref p, H, I, rfl, q⟩
/-- two lists of any kind -/
def rCatL (K : PySem.W.Frag) : R2 := fun x y H Q => ∃ l b xs zs, x = .ref l ∧ y = .ref b ∧ SqL K H l xs ∧ SqL K H b zs ∧ xs.length + zs.length ≤ sizeLine ∧ ∀ p, H p = none → Q (.ref p) (upd H p (.lst (xs ++ zs)))
theorem op_catL : OpR X (binaryOp .Add) (rCatL X.K) := by
  intro pins s σ H x y v u Q I rx ry h
  obtain ⟨l, b, xs, zs, rfl, rfl, hH, hB, hz, q⟩ := h
  cases rx
  cases ry
  obtain ⟨its, r, ⟨⟨c1, d1, dt1, s1⟩, n, e, hc, hd, hs⟩, _⟩ := I.list hH
  obtain ⟨its2, r2, ⟨⟨c2, d2, dt2, s2⟩, n2, e2, hc2, hd2, hs2⟩, _⟩ := I.list hB
  simp only at hc hd hs hc2 hd2 hs2
  subst hc hd hs hc2 hd2 hs2
  have hl := r.length
  have hl2 := r2.length
  refine concat_meets ⟨_, e, rfl⟩ ⟨_, e2, rfl⟩ noFill_list_add seq_list_add PySem.F.slot_list_add PySem.F.entry_list_add (PySem.F.args_list_add_2 _ _) (list_addW l b its.toArray its2.toArray n n2 none none s1 s2 (by rw [List.size_toArray, List.size_toArray]; omega)) ⟨e, e2, ?_⟩
  have ea : its.toArray ++ its2.toArray = (its ++ its2).toArray := by simp
  rw [ea]
  exact ⟨.ref _, _, I.lnew (t' := s.toks) (r.append r2) (by rw [List.length_append]; omega), rfl, q _ I.fresh⟩
def tTupN (t : TA) : TE := fun σ H Q => t σ H fun xs H1 => xs.length ≤ sizeLine ∧ ∀ us p, H1 p = none → Q (.ref p) (upd H1 p (.frz (tupO us) (.tup xs)))
theorem pe_tupN {es : List Expr} {t : TA} {x1 : Nat} {pos : Pos} (h : PA X es t) : PE X (.Tuple es x1 pos) (tTupN t) := by
  refine ⟨fun pins s σ H Q I hq => ?_⟩
  refine wpAny_Tuple_spliced (thn (h.run pos pins s σ H _ I hq) fun us s1 ⟨xs, H1, I1, r, z, q⟩ => ⟨by rw [← r.length]; exact z, ?_⟩)
  exact ⟨.ref s1.heap.objs.size, _, laid_tup (s := s1) (h' := s1.heap) I1 r z, rfl, q us _ (I1.hok.fresh (Nat.le_refl _))⟩
end
/-- (x,) * k -/
def rRep1 (K : PySem.W.Frag) : R2 := fun x y H Q => ∃ l k z, x = .ref l ∧ y = .int k ∧ SqT K H l [z] ∧ 2 ≤ k ∧ k ≤ 1000 ∧ ∀ us p, H p = none → Q (.ref p) (upd H p (.frz (tupO us) (.tup (List.replicate k.toNat z))))
theorem op_rep1 {X : Cx} : OpR X (binaryOp .Mult) (rRep1 X.K) := by
  intro pins s σ H x y v u Q I rx ry ⟨l, k, z, ex, ey, hT, h1, h2, q⟩
  subst ex ey
  obtain rfl : v = Value.ref l := rx
  obtain ⟨t, rfl⟩ := (show ∃ t, u = Value.int k t from ry)
  obtain ⟨its, r, ⟨o, ho, hc, n, hd⟩, _⟩ := I.tuple hT
  cases r with
  | cons rz rn =>
    cases rn
    rename_i a
    obtain ⟨oc, dd, dt, sl⟩ := o
    simp only at hc hd
    subst hc hd
    have hlen : (List.foldl (fun x1 x2 => x1 ++ x2) #[] (List.replicate k.toNat #[a])) = (List.replicate k.toNat a).toArray := by
      have e := size_rep [a] k.toNat
      rw [show [a].toArray = #[a] from rfl] at e
      rw [e]
      congr 1
      induction k.toNat with
      | zero => rfl
      | succ m ih => rw [List.replicate_succ, List.flatten_cons, ih]; rfl
    have small : k.toNat ≤ sizeLine := by rw [sizeLine_eq]; omega
    have one : (((#[a] : Array Value).size : Nat) : Int) * k = k := by
      show ((1 : Nat) : Int) * k = k
      omega
    have big : Builtin.Tuple.tupleTooMany (((#[a] : Array Value).size : Nat) * k) = false := by
      unfold Builtin.Tuple.tupleTooMany
      rw [sizeLine_eq]
      refine decide_eq_false ?_
      show ¬ (_ < ((1 : Nat) : Int) * k)
      omega
    refine wpAny_binaryOp_repeat_ref (T := "tuple") (U := "int") (by decide) ⟨_, ho, rfl⟩ (fun s' => typeIs_int s' k t) noFill_tuple_mul PySem.F.fills_int_mul PySem.F.slot_int_rmul repeat_tuple PySem.F.slot_int_index.lookup ?_
    refine call_meets PySem.F.slot_int_rmul (typeIs_int s k t) PySem.F.entry_int_rmul (PySem.F.args_int_rmul_2 _ _) (int_rmul_tuple k t l #[a] n dd sl) ⟨ho, rfl, ⟨_, ho, rfl⟩, ?_⟩
    refine call_meets PySem.F.slot_tuple_mul ⟨_, ho, rfl⟩ PySem.F.entry_tuple_mul (PySem.F.args_tuple_mul_2 _ _) (tuple_mulW l #[a] n dd sl k t ?_ ?_ ?_ (by omega) big ?_) ⟨ho, ?_⟩
    · rw [decide_eq_false (by omega), decide_eq_false (by omega)]; rfl
    · exact beq_eq_false_iff_ne.mpr (by omega)
    · rw [decide_eq_false (by omega)]; rfl
    · rw [hlen, List.size_toArray, List.length_replicate]; exact small
    · rw [hlen]
      have rr : Vals (List.replicate k.toNat z) (List.replicate k.toNat a) := by
        clear hlen small big q h1 h2
        induction k.toNat with
        | zero => exact .nil
        | succ m ih => exact .cons rz ih
      exact ⟨.ref s.heap.objs.size, _, laid_tup (s := s) (h' := s.heap) I rr (by rw [List.length_replicate]; exact small), rfl, q _ _ (I.hok.fresh (Nat.le_refl _))⟩
section
variable {X : Cx} {w : Wo}
theorem str_len (x y : Str) : (x ++ y).length = x.length + y.length := by
  show (x.cps ++ y.cps).size = _
  rw [Array.size_append]; rfl
theorem strOk_app {x y : Str} (h : PyData.strOk x = true) (h2 : PyData.strOk y = true) : PyData.strOk (x ++ y) = true := by
  unfold PyData.strOk at *
  show (x.cps ++ y.cps).all _ = true
  rw [Array.all_append, h, h2]; rfl
theorem op_bin {op : Operator} {o : Bop} (ho : opB op = some o) (hw : w.K = X.K) : OpR X (binaryOp op) (rBin w o) := by
  intro pins s σ H x y v u Q I rx ry ⟨F, dx, dy, r, fr, sF, bx, dby, e, q⟩
  have io {f : Value → Value → Sem Value} {i j k : Int} (ex : dx = .int i) (ey : dy = .int j) (er : r = .int k) (ef : fr = false)
      (rule : ∀ (t u : Tok), Inv X pins σ H { s with toks := s.toks + 1 } → (∀ t', EP X pins σ Q (.int k t') { s with toks := s.toks + 1 }) → wpAny (model X.prog X.w) X.A (f (.int i t) (.int j u)) (EP X pins σ Q) X.xe s) :
      wpAny (model X.prog X.w) X.A (f v u) (EP X pins σ Q) X.xe s := by
    subst ex ey er ef
    rw [bx.int] at rx
    rw [dby.int] at ry
    obtain ⟨t, rfl⟩ := rx
    obtain ⟨t', rfl⟩ := ry
    exact rule t t' (I.tok _) fun t' => ⟨.int k, H, I.tok _, ⟨_, rfl⟩, q.data sF (.int k)⟩
  unfold binD at e
  split at e
  · cases e
    cases op <;> simp [opB] at ho
    exact io rfl rfl rfl rfl fun t u I' h => add_int (h _)
  · rename_i x' y'
    split at e
    · rename_i hl
      cases e
      cases op <;> simp [opB] at ho
      obtain ⟨e1, k1, l1⟩ := bx.str
      obtain ⟨e2, k2, l2⟩ := dby.str
      refine op_add_str pins s σ H x y v u Q I rx ry ⟨_, _, e1, e2, Nat.le_trans hl limN_le, q.data sF (.str _ (strOk_app k1 k2) (by rw [str_len]; exact hl))⟩
    · cases e
  · rename_i xs ys
    split at e
    · rename_i hl
      cases e
      cases op <;> simp [opB] at ho
      obtain ⟨a, vs, e1, q1, r1, l1⟩ := bx.lst sF
      obtain ⟨b, us, e2, q2, r2, l2⟩ := dby.lst sF
      exact op_catL pins s σ H x y v u Q I rx ry ⟨a, b, vs, us, e1, e2, hw ▸ q1, hw ▸ q2, by rw [r1.length, r2.length]; exact Nat.le_trans hl limN_le, fun p hp => q.lst sF (r1.append r2) (by rw [List.length_append, r1.length, r2.length]; exact hl) hp⟩
    · cases e
  · rename_i xs ys
    split at e
    · rename_i hl
      cases e
      cases op <;> simp [opB] at ho
      obtain ⟨a, vs, e1, q1, r1, l1⟩ := bx.tup sF
      obtain ⟨b, us, e2, q2, r2, l2⟩ := dby.tup sF
      rw [hw] at q1 q2
      refine op_catN pins s σ H x y v u Q I rx ry ⟨a, b, vs, us, e1, e2, q1.sqT, q2.sqT, ?_, fun h0 => ?_, fun h0 h1 => ?_, fun h0 h1 us' p hp => ?_⟩
      · rw [r1.length, r2.length]; exact Nat.le_trans hl limN_le
      · subst h0
        cases r1
        have := q.data sF (dby.rep fun _ e => by cases e)
        rw [e2] at this; exact this
      · subst h1
        cases r2
        rw [List.append_nil] at q
        have := q.data sF (bx.rep fun _ e => by cases e)
        rw [e1] at this; exact this
      · exact q.tup sF (r1.append r2) (by rw [List.length_append, r1.length, r2.length]; exact hl) hp us'
    · cases e
  · cases e
    cases op <;> simp [opB] at ho
    exact io rfl rfl rfl rfl fun t u I' h => sub_int (h _)
  · rename_i i j
    split at e
    · rename_i hc
      cases e
      cases op <;> simp [opB] at ho
      exact io rfl rfl rfl rfl fun t u I' h => mul_int (h _) (mulOk_ok hc)
    · cases e
  · rename_i z' k'
    split at e
    · rename_i hc
      cases e
      cases op <;> simp [opB] at ho
      obtain ⟨a, vs, e1, q1, r1, l1⟩ := bx.tup sF
      rw [hw] at q1
      cases r1 with
      | cons h0 rn =>
        cases rn
        refine op_rep1 pins s σ H x y v u Q I rx ry ⟨a, k', _, e1, dby.int, q1.sqT, hc.1, hc.2, fun us p hp => q.tup sF ?_ (by rw [List.length_replicate]; unfold limN; omega) hp us⟩
        generalize k'.toNat = m
        induction m with
        | zero => exact .nil
        | succ m ih => exact .cons h0 ih
    · cases e
  · rename_i i j
    split at e
    · rename_i hc
      cases e
      cases op <;> simp [opB] at ho
      unfold divOk at hc
      rw [Bool.and_eq_true] at hc
      exact io rfl rfl rfl rfl fun t u I' h => floordiv_int (of_decide_eq_true hc.1) (h _) (.inl (by simpa using hc.2))
    · cases e
  · rename_i i j
    split at e
    · rename_i hc
      cases e
      cases op <;> simp [opB] at ho
      exact io rfl rfl rfl rfl fun t u I' h => mod_int' hc (h _)
    · cases e
  · rename_i i j
    split at e
    · rename_i hc
      cases e
      cases op <;> simp [opB] at ho
      have hc := of_decide_eq_true hc
      exact io rfl rfl rfl rfl fun t u I' h => pow_int_small hc.1 hc.2.1 hc.2.2 (h _)
    · cases e
  · rename_i i j
    split at e
    · rename_i hc
      cases e
      cases op <;> simp [opB] at ho
      have hc := of_decide_eq_true hc
      exact io rfl rfl rfl rfl fun t u I' h => lshift_int_small hc.1 hc.2.1 hc.2.2 (h _)
    · cases e
  · rename_i i j
    split at e
    · rename_i hc
      cases e
      cases op <;> simp [opB] at ho
      have e1 := bx.int
      have e2 := dby.int
      exact op_shr pins s σ H x y v u Q I rx ry ⟨i, j, e1, e2, hc, q.data sF (.int _)⟩
    · cases e
  · cases e
def opC : CmpOp → Option Cop
  | .Eq => some .eq | .NotEq => some .ne | .Lt => some .lt | .LtE => some .le | .Gt => some .gt | .GtE => some .ge | .In => some .isIn | .NotIn => some .notIn | _ => none
def rCmp (w : Wo) (o : Cop) : R2 := fun x y H Q => ∃ F dx dy b, Sub F H ∧ Bor w F H x dx ∧ Bor w F H y dy ∧ cmpD o dx dy = some b ∧ Q (.bl b) H
theorem eqD_some {x y : D} {b : Bool} (h : eqD x y = some b) : noObj x = true ∧ noObj y = true ∧ min (toP x).depth (toP y).depth ≤ 60 ∧ b = eqv x y := by
  unfold eqD at h
  split at h
  · rename_i hc
    rw [Bool.and_eq_true, Bool.and_eq_true, Bool.or_eq_true] at hc
    cases h
    refine ⟨hc.1.1, hc.1.2, ?_, rfl⟩
    rcases hc.2 with z | z
    · exact Nat.le_trans (Nat.min_le_left _ _) (flatN_depth _ _ z)
    · exact Nat.le_trans (Nat.min_le_right _ _) (flatN_depth _ _ z)
  · cases h
theorem flatV_of {F H : Hp} {v : V} {d : D} (h : Rep w F v d) (hf : isFlat d = true) : flatV v = true := by
  cases h <;> first | rfl | simp [isFlat] at hf
theorem eqV_of {F : Hp} {v u : V} {d e : D} (h : Rep w F v d) (h2 : Rep w F u e) (hf : isFlat d = true) (hf2 : isFlat e = true) : L2.eqV v u = eqv d e := by
  cases h <;> cases h2 <;> first | (simp [isFlat] at hf; done) | (simp [isFlat] at hf2; done) | (simp [L2.eqV, eqv])
theorem flats_of {F H : Hp} : ∀ {vs : List V} {ds : List D}, Reps w F vs ds → ds.all isFlat = true → vs.all flatV = true
  | _, _, .nil, _ => rfl
  | _, _, .cons h r, hf => by
    rw [List.all_cons, Bool.and_eq_true] at hf ⊢
    exact ⟨flatV_of (H := H) h hf.1, flats_of (H := H) r hf.2⟩
theorem any_of {F : Hp} {v : V} {d : D} (h : Rep w F v d) (hd : isFlat d = true) : ∀ {vs : List V} {ds : List D}, Reps w F vs ds → ds.all isFlat = true → (vs.any fun y => L2.eqV y v) = ds.any fun y => eqv y d
  | _, _, .nil, _ => rfl
  | _, _, .cons h1 r, hf => by
    rw [List.all_cons, Bool.and_eq_true] at hf
    rw [List.any_cons, List.any_cons, eqV_of h1 h hf.1 hd, any_of h hd r hf.2]
theorem any_toPs {d : D} (hd : noObj d = true) : ∀ {ds : List D}, noObjs ds = true → ((toPs ds).any fun y => PyData.eqv y (toP d)) = ds.any fun y => eqv y d
  | [], _ => rfl
  | x :: xs, h => by
    simp only [noObjs, Bool.and_eq_true] at h
    simp only [toPs, List.any_cons]
    rw [any_toPs hd h.2, eqv_toP x d h.1 hd]
theorem in_run {neg : Bool} {op : CmpOp} (ho : op = if neg then .NotIn else .In) (hw : w.K = X.K) (hu : X.A.units + 64 < cLine) {pins : List (Addr × Obj)} {s : Shared} {σ : L2.St} {F H : Hp} {x y : V} {dx dy : D} {v u : Value} {Q : VK} {b : Bool}
    (I : Inv X pins σ H s) (rx : RelV x v) (ry : RelV y u) (sF : Sub F H) (bx : Bor w F H x dx) (dby : Bor w F H y dy) (e : inD dx dy = some b) (q : Q (.bl (if neg then !b else b)) H) : wpAny (model X.prog X.w) X.A (compareOp op v u) (EP X pins σ Q) X.xe s := by
  unfold inD at e
  split at e
  · rename_i x' y'
    unfold strIn at e
    split at e
    · rename_i hl
      cases e
      obtain ⟨rfl, _, _⟩ := bx.str
      obtain ⟨rfl, _, _⟩ := dby.str
      have ex : x' = ⟨#[x'.cps.getD 0 0]⟩ := by
        obtain ⟨⟨l⟩⟩ := x'
        match l, hl with
        | [a], _ => rfl
      have hq : (if neg then !decide (x'.cps.getD 0 0 ∈ y'.cps.toList) else decide (x'.cps.getD 0 0 ∈ y'.cps.toList)) = (if neg then !(y'.cps.toList.contains (x'.cps.getD 0 0)) else y'.cps.toList.contains (x'.cps.getD 0 0)) := by
        have : decide (x'.cps.getD 0 0 ∈ y'.cps.toList) = y'.cps.toList.contains (x'.cps.getD 0 0) := by
          rw [List.contains_eq_mem]
        rw [this]
      cases neg with
      | true => subst ho; exact op_notIn_sign pins s σ H _ _ v u Q I rx ry ⟨_, _, congrArg V.str ex, rfl, by rw [← hq] at q; exact q⟩
      | false => subst ho; exact op_in_sign pins s σ H _ _ v u Q I rx ry ⟨_, _, congrArg V.str ex, rfl, by rw [← hq] at q; exact q⟩
    · cases e
  · rename_i ys
    obtain ⟨a, vs, e1, q1, r1, l1⟩ := dby.lst sF
    split at e
    · rename_i hf
      rw [Bool.and_eq_true] at hf
      cases e
      have rx' : Rep w F x dx := bx.rep fun xs ex => by subst ex; simp [isFlat] at hf
      have ea := any_of rx' hf.1 r1 hf.2
      have fin : inV x vs = ys.any fun y => eqv y dx := ea
      cases neg with
      | true => subst ho; exact op_notIn_seq pins s σ H x y v u Q I rx ry ⟨a, vs, e1, .inl (hw ▸ q1), flatV_of (H := H) rx' hf.1, flats_of (H := H) r1 hf.2, by rw [fin]; exact q⟩
      | false => subst ho; exact op_in_seq pins s σ H x y v u Q I rx ry ⟨a, vs, e1, .inl (hw ▸ q1), flatV_of (H := H) rx' hf.1, flats_of (H := H) r1 hf.2, by rw [fin]; exact q⟩
    · split at e
      · rename_i hf
        rw [Bool.and_eq_true, Bool.and_eq_true, Bool.and_eq_true] at hf
        cases e
        obtain ⟨as, ra⟩ := Dp.reads I _ _ _ (hw ▸ bx.dp sF hf.1.1.1) rx
        obtain ⟨bs, rb⟩ := Dp.reads I _ _ _ (hw ▸ dby.dp sF (by simpa only [noObj] using hf.1.1.2)) ry
        have hd := flatN_depth _ _ hf.1.2
        have hm : min (PyData.depthAll (toPs ys)) (toP dx).depth ≤ 30 := Nat.le_trans (Nat.min_le_right _ _) hd
        have ea := any_toPs (d := dx) hf.1.1.1 (ds := ys) hf.1.1.2
        have hlay : PyData.canLayAll0 (toPs ys) = true := r1.lay
        have rb' : Reads s.heap u (.list (toPs ys)) bs := by simpa [toP] using rb
        cases neg with
        | true => subst ho; exact SeqAt.notIn_list_reads rb' ra hlay bx.lay (by omega) ⟨.bl _, H, I, rfl, by rw [ea]; exact q⟩
        | false => subst ho; exact SeqAt.in_list_reads rb' ra hlay bx.lay (by omega) ⟨.bl _, H, I, rfl, by rw [ea]; exact q⟩
      · cases e
  · rename_i ys
    split at e
    · rename_i hf
      rw [Bool.and_eq_true] at hf
      cases e
      obtain ⟨a, vs, e1, q1, r1, l1⟩ := dby.tup sF
      rw [hw] at q1
      have rx' : Rep w F x dx := bx.rep fun xs ex => by subst ex; simp [isFlat] at hf
      have fin : inV x vs = ys.any fun y => eqv y dx := any_of rx' hf.1 r1 hf.2
      cases neg with
      | true => subst ho; exact op_notIn_seq pins s σ H x y v u Q I rx ry ⟨a, vs, e1, .inr q1.sqT, flatV_of (H := H) rx' hf.1, flats_of (H := H) r1 hf.2, by rw [fin]; exact q⟩
      | false => subst ho; exact op_in_seq pins s σ H x y v u Q I rx ry ⟨a, vs, e1, .inr q1.sqT, flatV_of (H := H) rx' hf.1, flats_of (H := H) r1 hf.2, by rw [fin]; exact q⟩
    · cases e
  · cases e
theorem op_cmp {op : CmpOp} {o : Cop} (ho : opC op = some o) (hw : w.K = X.K) (hu : X.A.units + 64 < cLine) : OpR X (compareOp op) (rCmp w o) := by
  intro pins s σ H x y v u Q I rx ry ⟨F, dx, dy, b, sF, bx, dby, e, q⟩
  unfold cmpD at e
  split at e
  · cases op <;> simp [opC] at ho
    obtain ⟨n1, n2, hm, rfl⟩ := eqD_some e
    obtain ⟨as, ra⟩ := Dp.reads I _ _ _ (hw ▸ bx.dp sF n1) rx
    obtain ⟨bs, rb⟩ := Dp.reads I _ _ _ (hw ▸ dby.dp sF n2) ry
    exact SeqAt.compareEq_reads ra rb bx.lay dby.lay (by omega) ⟨.bl _, H, I, rfl, by rw [← eqv_toP _ _ n1 n2]; exact q⟩
  · cases op <;> simp [opC] at ho
    rw [Option.map_eq_some_iff] at e
    obtain ⟨b', e, rfl⟩ := e
    obtain ⟨n1, n2, hm, rfl⟩ := eqD_some e
    obtain ⟨as, ra⟩ := Dp.reads I _ _ _ (hw ▸ bx.dp sF n1) rx
    obtain ⟨bs, rb⟩ := Dp.reads I _ _ _ (hw ▸ dby.dp sF n2) ry
    exact SeqAt.compareNe_reads ra rb bx.lay dby.lay (by omega) ⟨.bl _, H, I, rfl, by rw [← eqv_toP _ _ n1 n2]; exact q⟩
  · cases e
    cases op <;> simp [opC] at ho
    exact op_lt pins s σ H x y v u Q I rx ry ⟨_, _, bx.int, dby.int, q⟩
  · cases e
    cases op <;> simp [opC] at ho
    exact op_le pins s σ H x y v u Q I rx ry ⟨_, _, bx.int, dby.int, q⟩
  · cases e
    cases op <;> simp [opC] at ho
    exact op_gt pins s σ H x y v u Q I rx ry ⟨_, _, bx.int, dby.int, q⟩
  · cases e
    cases op <;> simp [opC] at ho
    exact op_ge pins s σ H x y v u Q I rx ry ⟨_, _, bx.int, dby.int, q⟩
  · cases op <;> simp [opC] at ho
    exact in_run (neg := false) rfl hw hu I rx ry sF bx dby e q
  · cases op <;> simp [opC] at ho
    rw [Option.map_eq_some_iff] at e
    obtain ⟨b', e, rfl⟩ := e
    exact in_run (neg := true) rfl hw hu I rx ry sF bx dby e q
  · cases e
theorem bor_tru {F H : Hp} {v : V} {d : D} {b : Bool} (hw : w.K = X.K) (sF : Sub F H) (h : Bor w F H v d) (e : truth d = some b) : TruV X.K v H b := by
  unfold truth at e
  split at e
  · cases e; rw [h.non]; rfl
  · cases e; rw [h.bl]; rfl
  · cases e; rw [h.int]; rfl
  · cases e; obtain ⟨rfl, _, hl⟩ := h.str; exact ⟨Nat.le_trans hl limN_le, rfl⟩
  · cases e
    obtain ⟨a, vs, rfl, q, r, _⟩ := h.tup sF
    refine .inr (.inl ⟨vs, (hw ▸ q).sqT, ?_⟩)
    cases r <;> rfl
  · cases e
    obtain ⟨a, vs, rfl, q, r, _⟩ := h.lst sF
    refine .inl ⟨vs, hw ▸ q, ?_⟩
    cases r <;> rfl
  · cases e
def isNonD : D → Bool
  | .non => true | _ => false
theorem bor_isN {F H : Hp} {v : V} {d : D} (h : Bor w F H v d) : decide (v = .non) = isNonD d := by
  rcases h with h | ⟨a, vs, xs, rfl, rfl, _⟩
  · cases h <;> first | rfl | exact decide_eq_false (fun e => nomatch e)
  · exact decide_eq_false (fun e => nomatch e)
def rIxD (w : Wo) : R2 := fun x y H Q => ∃ F dx dy r, Sub F H ∧ Bor w F H x dx ∧ Bor w F H y dy ∧ ixD dx dy = some r ∧ Aft w F H r false Q
theorem strOk_sub {x : Str} {l : List Nat} (h : PyData.strOk x = true) (hl : ∀ c ∈ l, c ∈ x.cps.toList) : PyData.strOk ⟨l.toArray⟩ = true := by
  unfold PyData.strOk at *
  rw [Array.all_eq_true_iff_forall_mem] at *
  intro c hc
  exact h c (Array.mem_toList_iff.mp (hl c (by simpa using hc)))
theorem lookP_ok {w : Wo} {F : Hp} {k : Str} {r : D} : ∀ {ks : List Str} {vs : List V} {ds : List D}, Reps w F vs ds → ks.length = vs.length → lookP k (pr ks ds) = some r → ∃ v, valV ((ks.map Sum.inr).zip vs) (Sum.inr k : Key) = some v ∧ Rep w F v r
  | [], _, _, _, _, e => by simp [pr, lookP] at e
  | j :: ks, v :: vs, d :: ds, .cons h rr, hk, e => by
    simp only [pr, lookP] at e
    rw [List.map_cons, List.zip_cons_cons]
    by_cases hj : j = k
    · rw [if_pos hj] at e
      cases e
      exact ⟨v, valV_pos (by rw [hj]), h⟩
    · rw [if_neg hj] at e
      obtain ⟨z, e1, r1⟩ := lookP_ok rr (by simpa using hk) e
      exact ⟨z, by rw [valV_neg (fun z => hj (Sum.inr.inj z))]; exact e1, r1⟩
  | _ :: _, [], _, _, hk, _ => by simp at hk
theorem ix_d (hw : w.K = X.K) (hu : X.A.units + 64 < cLine) : IxR X (rIxD w) := by
  intro value slice pins s σ H x y v u Q I rx ry ⟨F, dx, dy, r, sF, bx, dby, e, q⟩ hs
  unfold ixD at e
  split at e
  · rename_i c ps k
    split at e
    · obtain ⟨a, ks, vs, ds, rfl, _, rfl, hH, rr, hk, hl⟩ := bx.dct sF
      obtain ⟨rfl, _, _⟩ := dby.str
      obtain ⟨z, e1, r1⟩ := lookP_ok rr hk e
      obtain rfl : v = Value.ref a := rx
      have g : DGet H a (.str k) (some z) := .inl ⟨_, Sum.inr k, .inl hH, rfl, e1.symm⟩
      have hT := dict_typeIs I g
      unfold subscriptTail
      refine wpAny_bind ?_
      rw [getitemInPython_of_ne hT.not_modules]
      refine wpAny_bind (wpAny_specialOf hT PySem.F.slot_dict_getitem.lookup (wpAny_pure (wpAny_bind ?_)))
      rw [hs]
      exact wpAny_operating (d_getItem (A := X.A) (by omega) I g ry fun w' s' I' rw' => wpAny_bind (wpAny_letTemporaryGo (wpAny_pure ⟨z, H, I', rw', q.data sF r1⟩)))
    · cases e
  · obtain ⟨a, vs, rfl, h1, r1, l1⟩ := bx.lst sF
    obtain ⟨z, e1, r2⟩ := r1.at e
    exact ix_seq value slice pins s σ H _ _ v u Q I rx ry (.inl ⟨a, vs, _, z, rfl, dby.int, hw ▸ h1, e1, q.data sF r2⟩) hs
  · obtain ⟨a, vs, rfl, h1, r1, l1⟩ := bx.tup sF
    obtain ⟨z, e1, r2⟩ := r1.at e
    exact ix_seq value slice pins s σ H _ _ v u Q I rx ry (.inr (.inl ⟨a, vs, _, z, rfl, dby.int, (hw ▸ h1).sqT, e1, q.data sF r2⟩)) hs
  · rename_i z i
    rw [Option.map_eq_some_iff] at e
    obtain ⟨c, e, rfl⟩ := e
    obtain ⟨rfl, k, hl⟩ := bx.str
    refine ix_seq value slice pins s σ H _ _ v u Q I rx ry (.inr (.inr ⟨z, i, c, rfl, dby.int, Nat.le_trans hl limN_le, e, q.data sF (.str _ (strOk_sub k fun b hb => ?_) (by show 1 ≤ limN; decide))⟩)) hs
    obtain rfl : b = c := by simpa using hb
    obtain ⟨j, _, hj, _⟩ := atI_get e
    exact List.mem_of_getElem? hj
  · cases e
def rSlD (w : Wo) : V → Option Int → Option Int → Hp → VK → Prop := fun x lo hi H Q => ∃ F dx r fr, Sub F H ∧ Bor w F H x dx ∧ slD dx lo hi = some (r, fr) ∧ Aft w F H r fr Q
theorem cut_length {α : Type} (xs : List α) (lo hi : Option Int) : (IL.cut xs lo hi).length ≤ xs.length := by
  unfold IL.cut
  rw [List.length_take, List.length_drop]; omega
theorem cut_whole {α : Type} {xs : List α} {lo hi : Option Int} (h : HT.sIx xs.length 0 lo = 0 ∧ HT.sIx xs.length xs.length hi = xs.length) : IL.cut xs lo hi = xs := by
  unfold IL.cut
  rw [h.1, h.2]; simp
theorem cut_mem {α : Type} {xs : List α} {lo hi : Option Int} {c : α} (h : c ∈ IL.cut xs lo hi) : c ∈ xs := List.mem_of_mem_drop (List.mem_of_mem_take h)
theorem sl_d (hw : w.K = X.K) : SlR X (rSlD w) := by
  intro pins s σ H x v vl vu lo hi sl Q I rx hs pl pu ⟨F, dx, r, fr, sF, bx, e, q⟩
  unfold slD at e
  split at e
  · cases e
    obtain ⟨a, vs, rfl, h1, r1, l1⟩ := bx.lst sF
    exact sl_list pins s σ H _ v vl vu lo hi sl Q I rx hs pl pu ⟨a, vs, rfl, hw ▸ h1, fun p hp => q.lst sF (r1.cut lo hi) (Nat.le_trans (cutV_length _ _ _) l1) hp⟩
  · rename_i xs _ _
    cases e
    obtain ⟨a, vs, rfl, h1, r1, l1⟩ := bx.tup sF
    refine sl_tupN pins s σ H _ v vl vu lo hi sl Q I rx hs pl pu ⟨a, vs, rfl, (hw ▸ h1).sqT, fun h => ?_, fun _ us p hp => q.tup sF (r1.cut lo hi) (Nat.le_trans (cutV_length _ _ _) l1) hp us⟩
    rw [r1.length] at h
    rw [cut_whole h] at q
    exact q.data sF (bx.rep fun _ e => by cases e)
  · cases e
    obtain ⟨rfl, k, hl⟩ := bx.str
    refine sl_str pins s σ H _ v vl vu lo hi sl Q I rx hs pl pu ⟨_, rfl, Nat.le_trans hl limN_le, ?_⟩
    have ez : ∀ z : Str, cutS z lo hi = ⟨(IL.cut z.cps.toList lo hi).toArray⟩ := fun z => by
      unfold cutS IL.cut
      rw [Array.length_toList]; rfl
    rw [ez]
    refine q.data sF (.str _ (strOk_sub k fun c hc => cut_mem hc) ?_)
    show ((IL.cut _ lo hi).toArray).size ≤ limN
    rw [List.size_toArray]
    refine Nat.le_trans (cut_length _ _ _) ?_
    rw [Array.length_toList]
    exact hl
  · cases e
inductive Bors (w : Wo) (F H : Hp) : List V → List D → Prop
  | nil : Bors w F H [] []
  | cons {v : V} {vs : List V} {d : D} {ds : List D} (h : Bor w F H v d) (r : Bors w F H vs ds) : Bors w F H (v :: vs) (d :: ds)
theorem Bors.of {F H : Hp} : ∀ {vs : List V} {ds : List D}, Reps w F vs ds → Bors w F H vs ds
  | _, _, .nil => .nil
  | _, _, .cons h r => .cons (.inl h) (.of r)
theorem Bors.one {F H : Hp} {xs : List V} {d : D} (h : Bors w F H xs [d]) : ∃ x, xs = [x] ∧ Bor w F H x d := by
  cases h with
  | cons h r => cases r; exact ⟨_, rfl, h⟩
theorem Bors.two {F H : Hp} {xs : List V} {d e : D} (h : Bors w F H xs [d, e]) : ∃ x y, xs = [x, y] ∧ Bor w F H x d ∧ Bor w F H y e := by
  cases h with
  | cons h r =>
    obtain ⟨y, rfl, h2⟩ := Bors.one r
    exact ⟨_, y, rfl, h, h2⟩
/-- xs[::-1]: no call -/
def isRev : Blt → Bool
  | .rev => true | _ => false
def bltV : Blt → Value
  | .len => .builtin "len" | .abs => .builtin "abs" | .min2 => .builtin "min" | .max2 => .builtin "max" | .int => .type "int" | .tuple => .type "tuple" | .list => .type "list"
  | .all => .builtin "all" | .any => .builtin "any" | .sum => .builtin "sum" | .str => .type "str" | .rev => .type "str"
def rBlt (w : Wo) (f : Blt) : List V → Hp → VK → Prop := fun xs H Q => ∃ F ds r fr, Sub F H ∧ Bors w F H xs ds ∧ bltD f ds = some (r, fr) ∧ Aft w F H r fr Q
theorem bools_of {F : Hp} : ∀ {vs : List V} {ds : List D} {bs : List Bool}, Reps w F vs ds → boolsD ds = some bs → vs = bs.map V.bl
  | _, _, _, .nil, h => by cases h; rfl
  | _, _, _, .cons h r, e => by
    cases h with
    | bl b =>
      simp only [boolsD, Option.map_eq_some_iff] at e
      obtain ⟨bs, e, rfl⟩ := e
      rw [bools_of r e]; rfl
    | _ => cases e
theorem ints_of {F : Hp} : ∀ {vs : List V} {ds : List D} {bs : List Int}, Reps w F vs ds → intsD ds = some bs → vs = bs.map V.int
  | _, _, _, .nil, h => by cases h; rfl
  | _, _, _, .cons h r, e => by
    cases h with
    | int b =>
      simp only [intsD, Option.map_eq_some_iff] at e
      obtain ⟨bs, e, rfl⟩ := e
      rw [ints_of r e]; rfl
    | _ => cases e
theorem call_blt (hw : w.K = X.K) (hc : X.calm = true) (f : Blt) (hf : isRev f = false) : CallR X (bltV f) (rBlt w f) := by
  intro pins s σ H xs us Q I rv ⟨F, ds, r, fr, sF, bs, e, q⟩
  unfold bltD at e
  split at e
  · rename_i d
    rw [Option.map_eq_some_iff] at e
    obtain ⟨k, e, e2⟩ := e
    cases e2
    obtain ⟨x, rfl, bx⟩ := bs.one
    refine call_len pins s σ H _ us Q I rv ⟨x, k, rfl, ?_, q.data sF (.int _)⟩
    unfold lenD at e
    split at e
    · cases e; obtain ⟨rfl, _, hl⟩ := bx.str; exact ⟨Nat.le_trans hl limN_le, rfl⟩
    · cases e; obtain ⟨a, vs, rfl, h1, r1, _⟩ := bx.tup sF; exact .inr ⟨vs, (hw ▸ h1).sqT, r1.length.symm⟩
    · cases e; obtain ⟨a, vs, rfl, h1, r1, _⟩ := bx.lst sF; exact .inl ⟨vs, hw ▸ h1, r1.length.symm⟩
    · cases e
  · cases e
    obtain ⟨x, rfl, bx⟩ := bs.one
    exact call_abs pins s σ H _ us Q I rv ⟨_, by rw [bx.int], q.data sF (.int _)⟩
  · cases e
    obtain ⟨x, y, rfl, bx, dby⟩ := bs.two
    exact call_min2 hc pins s σ H _ us Q I rv ⟨_, _, by rw [bx.int, dby.int], q.data sF (.int _)⟩
  · cases e
    obtain ⟨x, y, rfl, bx, dby⟩ := bs.two
    exact call_max2 hc pins s σ H _ us Q I rv ⟨_, _, by rw [bx.int, dby.int], q.data sF (.int _)⟩
  · cases e
    obtain ⟨x, rfl, bx⟩ := bs.one
    exact call_int1 pins s σ H _ us Q I rv (.inl ⟨_, by rw [bx.int], q.data sF (.int _)⟩)
  · cases e
    obtain ⟨x, rfl, bx⟩ := bs.one
    exact call_int1 pins s σ H _ us Q I rv (.inr ⟨_, by rw [bx.bl], q.data sF (.int _)⟩)
  · cases e
    obtain ⟨x, rfl, bx⟩ := bs.one
    obtain ⟨a, vs, rfl, h1, r1, l1⟩ := bx.lst sF
    exact call_tupleN pins s σ H _ us Q I rv ⟨a, vs, rfl, .inl ⟨hw ▸ h1, fun us p hp => q.tup sF r1 l1 hp us⟩⟩
  · cases e
    obtain ⟨x, rfl, bx⟩ := bs.one
    obtain ⟨a, vs, rfl, h1, r1, l1⟩ := bx.tup sF
    exact call_tupleN pins s σ H _ us Q I rv ⟨a, vs, rfl, .inr ⟨(hw ▸ h1).sqT, q.data sF (bx.rep fun _ e => by cases e)⟩⟩
  · cases e
    obtain ⟨x, rfl, bx⟩ := bs.one
    obtain ⟨a, vs, rfl, h1, r1, l1⟩ := bx.lst sF
    exact call_list_of pins s σ H _ us Q I rv ⟨a, vs, rfl, .inl (hw ▸ h1), fun p hp => q.lst sF r1 l1 hp⟩
  · cases e
    obtain ⟨x, rfl, bx⟩ := bs.one
    obtain ⟨a, vs, rfl, h1, r1, l1⟩ := bx.tup sF
    exact call_list_of pins s σ H _ us Q I rv ⟨a, vs, rfl, .inr (hw ▸ h1).sqT, fun p hp => q.lst sF r1 l1 hp⟩
  · rw [Option.map_eq_some_iff] at e
    obtain ⟨n, e, e2⟩ := e
    cases e2
    obtain ⟨x, rfl, bx⟩ := bs.one
    obtain ⟨a, vs, rfl, h1, r1, l1⟩ := bx.lst sF
    have := bools_of r1 e
    subst this
    exact cr_all hc pins s σ H _ us Q I rv ⟨a, n, rfl, hw ▸ h1, q.data sF (.bl _)⟩
  · rw [Option.map_eq_some_iff] at e
    obtain ⟨n, e, e2⟩ := e
    cases e2
    obtain ⟨x, rfl, bx⟩ := bs.one
    obtain ⟨a, vs, rfl, h1, r1, l1⟩ := bx.lst sF
    have := bools_of r1 e
    subst this
    exact cr_any hc pins s σ H _ us Q I rv ⟨a, n, rfl, hw ▸ h1, q.data sF (.bl _)⟩
  · rw [Option.map_eq_some_iff] at e
    obtain ⟨n, e, e2⟩ := e
    cases e2
    obtain ⟨x, rfl, bx⟩ := bs.one
    obtain ⟨a, vs, rfl, h1, r1, l1⟩ := bx.lst sF
    have := ints_of r1 e
    subst this
    exact cr_sum hc pins s σ H _ us Q I rv ⟨a, n, rfl, hw ▸ h1, q.data sF (.int _)⟩
  · cases hf
  · cases e
def tyN : D → String
  | .non => "NoneType" | .bl _ => "bool" | .int _ => "int" | .str _ => "str" | .tup _ => "tuple" | .lst _ => "list" | .obj _ _ => "dict"
def tyS : Ty → String
  | .int => "int" | .bool => "bool" | .str => "str" | .tuple => "tuple" | .list => "list" | .cls _ => ""
def isB : Ty → Bool
  | .cls _ => false | _ => true
theorem bor_ty {F H : Hp} {v : V} {d : D} (hw : w.K = X.K) (sF : Sub F H) (h : Bor w F H v d) : TyX X.K H v (.type (tyN d)) := by
  cases d with
  | non => rw [h.non]; exact .base .non
  | bl b => rw [h.bl]; exact .base (.bl b)
  | int b => rw [h.int]; exact .base (.int b)
  | str x => obtain ⟨rfl, _, _⟩ := h.str; exact .base (.str x)
  | tup xs =>
    obtain ⟨a, vs, rfl, q, _, _⟩ := h.tup sF
    rcases q with ⟨o, q, _⟩ | ⟨o, its, n, h1, h2, _⟩
    · exact .fTuple q
    · exact .kTuple (hw ▸ h1) h2
  | lst xs =>
    obtain ⟨a, vs, rfl, q, _, _⟩ := h.lst sF
    rcases q with (q | ⟨o, q⟩) | ⟨o, its, n, h1, h2, _⟩
    · exact .base (.lst q)
    · exact .base (.frz q)
    · exact .kList (hw ▸ h1) h2
  | obj c xs =>
    obtain ⟨a, ks, vs, ds, rfl, _, _, q, _⟩ := h.dct sF
    exact .base (.dK q)
theorem kit_is {K : PySem.W.Frag} {d : D} {t : Ty} (ht : isB t = true) : PySem.W.kitOne K (.type (tyN d)) (.type (tyS t)) = some (isTy d t) := by
  cases t with
  | cls c => simp [isB] at ht
  | int => cases d <;> exact kit_ty (by simp only [tyN, tyS, isTy]; decide +kernel)
  | bool => cases d <;> exact kit_ty (by simp only [tyN, tyS, isTy]; decide +kernel)
  | str => cases d <;> exact kit_ty (by simp only [tyN, tyS, isTy]; decide +kernel)
  | tuple => cases d <;> exact kit_ty (by simp only [tyN, tyS, isTy]; decide +kernel)
  | list => cases d <;> exact kit_ty (by simp only [tyN, tyS, isTy]; decide +kernel)
theorem kit_any {K : PySem.W.Frag} {d : D} : ∀ {ts : List Ty}, ts.all isB = true → PySem.W.kitAny K (.type (tyN d)) (ts.map fun t => .type (tyS t)) = some (isTys d ts)
  | [], _ => rfl
  | t :: ts, h => by
    rw [List.all_cons, Bool.and_eq_true] at h
    have h1 := kit_is (K := K) (d := d) h.1
    have h2 := kit_any (K := K) (d := d) h.2
    refine kitAny_cons h1 (fun e => ?_) (fun e => ?_)
    · rw [h2]; simp [isTys, e]
    · simp [isTys, e]
theorem tyV_N {pins : List (Addr × Obj)} {σ : L2.St} {H : Hp} {s : Shared} {p : Addr} {ys : List V} (I : Inv X pins σ H s) (h : SqN X.K H p ys) : s.TypeIs (.ref p) "tuple" ∧ ∀ a, Value.ref p = .ref a → ∃ ob, s.heap.get? a = some ob ∧ ob.dict = none := by
  rcases h with ⟨o, h, d⟩ | ⟨o, its, n, h1, h2, h3, _⟩
  · obtain ⟨e, z, its, r, o', e', c, _⟩ := I.hok p _ h
    rw [e] at e'; cases e'
    exact ⟨⟨o, e, c⟩, fun a q => by cases q; exact ⟨o, e, d⟩⟩
  · exact ⟨⟨o, I.kIn p o h1, h2⟩, fun a q => by cases q; exact ⟨o, I.kIn _ o h1, h3⟩⟩
def tTM (K : PySem.W.Frag) (r : V → List V → Hp → VK → Prop) (to : TE) (t : TA) : TE := fun σ H Q => to σ H fun x H1 => (∃ p ys, x = .ref p ∧ SqN K H1 p ys) ∧ t σ H1 fun xs H2 => r x xs H2 Q
theorem pe_tm {o e : Expr} {es : List Expr} {to : TE} {t : TA} {name : Str} {apos cpos : Pos} {id : String} {r : V → List V → Hp → VK → Prop} (pa : PlainAttrs "tuple") (slot : PySem.Slot "tuple" name id) (hty : typeOf (.builtin id) = pure (.type "method_descriptor")) (hm : MtR X id r) (ho : PE X o to) (ha : PA X (e :: es) t)
    (hbase : attributeBase o name X.env (eval o X.env) = eval o X.env)
    (hfew : ((backTo cpos (starEach (e :: es) X.env)).all (fun x => !x.1) && (backToKw cpos (keywordEach [] X.env)).all (fun x => x.1.isSome)
      && decide ((e :: es).length + ([] : List Keyword).length + (if ([] : List Keyword).isEmpty then 0 else 1) < 30)) = true)
    (hline : (apos.endLine == cpos.line) = true) (hs : starEach (e :: es) X.env = (false, eval e X.env) :: starEach es X.env) (hplain : (backTo cpos (starEach es X.env)).any (·.1) = false) :
    PE X (.Call (.Attribute o name apos) (e :: es) [] cpos) (tTM X.K r to t) := by
  refine ⟨fun pins s σ H Q I h => ?_⟩
  refine wpAny_Call_method_late hbase hfew hline rfl (thn (ho.run pins s σ H _ I h) fun v s1 ⟨x, H1, I1, r1, ⟨p, ys, ex, hq⟩, q1⟩ => ?_)
  subst ex
  cases r1
  obtain ⟨h1, h2⟩ := tyV_N I1 hq
  refine ⟨"tuple", id, pa, slot, hty, h1, h2, ?_⟩
  have hA := ha.run cpos pins s1 σ H1 _ I1 q1
  rw [hs] at hA ⊢
  refine Calls.callWith_builtin (by show (false || (backTo cpos (starEach es X.env)).any (·.1)) = false; rw [hplain] <;> rfl) (Calls.evalArgs_plain ?_)
  exact thn hA fun us s2 ⟨vs, H2, I2, r2, q2⟩ => hm pins s2 σ H2 (.ref p) vs _ us Q I2 rfl r2 q2
theorem strs_of {F : Hp} : ∀ {vs : List V} {ds : List D}, Reps w F vs ds → allStr ds = true → ∃ ys : List Str, vs = ys.map V.str ∧ ds = ys.map D.str
  | _, _, .nil, _ => ⟨[], rfl, rfl⟩
  | _, _, .cons h r, e => by
    cases h with
    | str x h hl =>
      obtain ⟨ys, rfl, rfl⟩ := strs_of r (by simpa [allStr] using e)
      exact ⟨x :: ys, rfl, rfl⟩
    | _ => simp [allStr] at e
theorem firstAt_of {x : Str} : ∀ {ys : List Str} {j : Nat}, firstAt x (ys.map D.str) = some j → ys[j]? = some x ∧ ∀ m, m < j → ys[m]? ≠ some x
  | [], _, h => by simp [firstAt] at h
  | y :: ys, j, h => by
    simp only [List.map_cons, firstAt] at h
    split at h
    · rename_i e
      cases h
      exact ⟨by rw [e]; rfl, fun m hm => absurd hm (Nat.not_lt_zero m)⟩
    · rename_i e
      rw [Option.map_eq_some_iff] at h
      obtain ⟨k, h, rfl⟩ := h
      obtain ⟨h1, h2⟩ := firstAt_of h
      refine ⟨by simpa using h1, fun m hm => ?_⟩
      cases m with
      | zero => simpa using e
      | succ m => simpa using h2 m (by omega)
def rIdx (w : Wo) : V → List V → Hp → VK → Prop := fun x xs H Q => ∃ F dx ds r, Sub F H ∧ Bor w F H x dx ∧ Bors w F H xs ds ∧ mthD .index dx ds = some r ∧ Aft w F H r false Q
theorem mt_idx (hw : w.K = X.K) : MtR X "tuple.index" (rIdx w) := by
  intro pins s σ H x xs v us Q I rx rs ⟨F, dx, ds, r, sF, bx, bs, e, q⟩
  unfold mthD at e
  split at e
  · rename_i ys z heq
    split at e
    · rename_i hs
      rw [Option.map_eq_some_iff] at e
      obtain ⟨j, e, rfl⟩ := e
      obtain ⟨a, vs, rfl, h1, r1, l1⟩ := bx.tup sF
      obtain ⟨zs, rfl, rfl⟩ := strs_of r1 hs
      obtain ⟨y, rfl, by'⟩ := bs.one
      obtain ⟨rfl, _, _⟩ := by'.str
      obtain ⟨e1, e2⟩ := firstAt_of e
      exact mt_tup_index pins s σ H _ _ v us Q I rx rs ⟨a, zs, _, j, rfl, rfl, (hw ▸ h1).sqT, e1, e2, q.data sF (.int _)⟩
    · cases e
  all_goals first | contradiction | cases e
/-- a method of a list -/
def tLM (K : PySem.W.Frag) (r : V → List V → Hp → VK → Prop) (to : TE) (t : TA) : TE := fun σ H Q => to σ H fun x H1 => (∃ p ys, x = .ref p ∧ SqL K H1 p ys) ∧ t σ H1 fun xs H2 => r x xs H2 Q
theorem pe_lm {o e : Expr} {es : List Expr} {to : TE} {t : TA} {name : Str} {apos cpos : Pos} {id : String} {r : V → List V → Hp → VK → Prop} (pa : PlainAttrs "list") (slot : PySem.Slot "list" name id) (hty : typeOf (.builtin id) = pure (.type "method_descriptor")) (hm : MtR X id r) (ho : PE X o to) (ha : PA X (e :: es) t)
    (hbase : attributeBase o name X.env (eval o X.env) = eval o X.env)
    (hfew : ((backTo cpos (starEach (e :: es) X.env)).all (fun x => !x.1) && (backToKw cpos (keywordEach [] X.env)).all (fun x => x.1.isSome)
      && decide ((e :: es).length + ([] : List Keyword).length + (if ([] : List Keyword).isEmpty then 0 else 1) < 30)) = true)
    (hline : (apos.endLine == cpos.line) = true) (hs : starEach (e :: es) X.env = (false, eval e X.env) :: starEach es X.env) (hplain : (backTo cpos (starEach es X.env)).any (·.1) = false) :
    PE X (.Call (.Attribute o name apos) (e :: es) [] cpos) (tLM X.K r to t) := by
  refine ⟨fun pins s σ H Q I h => ?_⟩
  refine wpAny_Call_method_late hbase hfew hline rfl (thn (ho.run pins s σ H _ I h) fun v s1 ⟨x, H1, I1, r1, ⟨p, ys, ex, hq⟩, q1⟩ => ?_)
  subst ex
  cases r1
  have h2 : s1.TypeIs (.ref p) "list" ∧ ∀ a, Value.ref p = .ref a → ∃ ob, s1.heap.get? a = some ob ∧ ob.dict = none := by
    obtain ⟨its, rv, ⟨⟨cls, dd, data, sl⟩, n, ho, hc, hdn, hd⟩, hlen⟩ := I1.list hq
    exact ⟨⟨_, ho, hc⟩, fun a e => by cases e; exact ⟨_, ho, hdn⟩⟩
  refine ⟨"list", id, pa, slot, hty, h2.1, h2.2, ?_⟩
  have hA := ha.run cpos pins s1 σ H1 _ I1 q1
  rw [hs] at hA ⊢
  refine Calls.callWith_builtin (by show (false || (backTo cpos (starEach es X.env)).any (·.1)) = false; rw [hplain] <;> rfl) (Calls.evalArgs_plain ?_)
  exact thn hA fun us s2 ⟨vs, H2, I2, r2, q2⟩ => hm pins s2 σ H2 (.ref p) vs _ us Q I2 rfl r2 q2
theorem cnt_vals {x : Str} : ∀ {ys : List Str} {us : List Value}, Vals (ys.map V.str) us → us.countP (eqU (.str x)) = cntS x (ys.map D.str)
  | [], _, .nil => rfl
  | y :: ys, _, .cons r t => by
    obtain ⟨k, rfl⟩ := r
    rw [List.countP_cons, cnt_vals t, List.map_cons, cntS, Nat.add_comm]
    congr 1
    show (if (y == x) = true then 1 else 0) = _
    simp
def rCnt (w : Wo) : V → List V → Hp → VK → Prop := fun x xs H Q => ∃ F dx ds r, Sub F H ∧ Bor w F H x dx ∧ Bors w F H xs ds ∧ mthD .count dx ds = some r ∧ Aft w F H r false Q
theorem mt_cnt (hw : w.K = X.K) : MtR X "list.count" (rCnt w) := by
  intro pins s σ H x xs v us Q I rx rs ⟨F, dx, ds, r, sF, bx, bs, e, q⟩
  unfold mthD at e
  split at e
  · contradiction
  · contradiction
  · rename_i ys z heq
    split at e
    · rename_i hs
      cases e
      obtain ⟨a, vs, rfl, h1, r1, l1⟩ := bx.lst sF
      obtain ⟨zs, rfl, rfl⟩ := strs_of r1 hs
      obtain ⟨y, rfl, by'⟩ := bs.one
      obtain ⟨rfl, _, _⟩ := by'.str
      cases rx
      obtain ⟨u, rfl, t, rfl⟩ := vals1 rs
      obtain ⟨its, rv, ⟨⟨cls, dd, data, sl⟩, n, ho, hc, hdn, hd⟩, hlen⟩ := I.list (hw ▸ h1)
      simp only at hc hd
      subst hc hd
      refine call_meets PySem.F.slot_list_count ⟨_, ho, rfl⟩ PySem.F.entry_list_count (PySem.F.args_list_count_2 _ _)
        (SeqAt.list_countAt a its.toArray n dd sl (.str z t) (eqU (.str z))) ⟨ho, fun w hw => mem_eqAt (x := .str z) ⟨t, rfl⟩ rfl rv (flat_strs zs) w (by simpa using hw), ?_⟩
      have ec : its.toArray.toList.countP (eqU (.str z)) = cntS z (zs.map D.str) := cnt_vals rv
      refine q.data sF (.int _) |> fun q => ⟨.int (cntS z (zs.map D.str) : Nat), H, I.tok _, ⟨s.toks, ?_⟩, q⟩
      show Value.int ((its.toArray.toList.countP (eqU (.str z)) : Nat) : Int) s.toks = _
      rw [ec]
    · cases e
  all_goals first | contradiction | cases e
/-- len(set(xs)), xs a list of texts -/
def tKinds (K : PySem.W.Frag) (ta : TE) : TE := fun σ H Q => ta σ H fun x H1 => ∃ l, ∃ xs : List Str, x = .ref l ∧ SqL K H1 l (xs.map V.str) ∧ xs.length ≤ 4000 ∧ Q (.int (kinds xs : Nat)) H1
theorem strs_are : ∀ {ys : List Str} {us : List Value}, Vals (ys.map V.str) us → PyProof.Rows.StrsAre us ys
  | [], _, .nil => .nil
  | y :: ys, _, .cons r t => by
    obtain ⟨k, rfl⟩ := r
    exact .cons y k (strs_are t)
theorem pe_kinds {a : Expr} {ta : TE} {p p2 q pos : Pos} (hc : X.calm = true) (hg : Gl X "len") (hm : X.mg "len" = none) (hg2 : Gl X "set") (hm2 : X.mg "set" = none) (ha : PE X a ta)
    (na : starEach [a] X.env = (false, eval a X.env) :: starEach [] X.env) : PE X (.Call (.Name "len" p) [.Call (.Name "set" p2) [a] [] q] [] pos) (tKinds X.K ta) := by
  refine ⟨fun pins s σ H Q I h => Call_ (ld_blt I hg hm PySem.boot_len (PyProof.Rows.callWith_builtin1 (PyProof.Rows.args_cons ?_ rfl) rfl rfl))⟩
  refine Call_ (ld_blt I hg2 hm2 PyProof.Rows.boot_set ?_)
  refine PyProof.Rows.callWith_type1 (PyProof.Rows.args_cons (thn (ha.run pins s σ H _ I h) fun v s1 ⟨x, H1, I1, r1, l, xs, ex, hq, room, k⟩ => PyProof.Rows.args_nil ?_) na) na rfl
  subst ex
  cases r1
  obtain ⟨its, r, pl, hz⟩ := I1.list hq
  have bound : (metAt xs xs.length).length ≤ xs.length := metAt_le xs _ (Nat.le_refl _)
  refine call_set_any (I1.ok.hd hc) pl.isList (by simpa using strs_are r) (by unfold scanBound; omega) fun s2 hF => PyProof.Rows.args_nil ?_
  obtain ⟨h', tk, rfl, ⟨o, es, ep, t, ho, hex, hd, _, _, _, hf, hn⟩, keep⟩ := hF
  have I2 : Inv X pins σ H1 { s1 with heap := h', toks := tk } := I1.kept fun b o e => keep b o (Heap.lt_size e) e
  have same : kinds xs = es.size := by
    rw [hn]; unfold kinds metAt
    rw [List.take_length]
  exact call_len_set ho hex hd hf (by rw [hn]; omega) ⟨.int (kinds xs : Nat), H1, I2.tok _, ⟨_, by rw [same]⟩, k⟩
end
end IL
end
section
set_option maxHeartbeats 1000000
namespace IL
open PySem PySem.Spec PyProof.Rows L2
theorem R.bind_assoc {α β γ : Type} (r : R α) (f : α → Sg → R β) (g : β → Sg → R γ) : (r.bind f).bind g = r.bind fun a s => (f a s).bind g := by
  cases r <;> rfl
/-- an error's own data -/
inductive ExD (w : Wo) (F : Hp) (c : Str) : Option D → Option Addr → Prop
  | no (hc : c ∈ w.xs) (dd : Option Addr) : ExD w F c none dd
  | yes {d : D} {v : V} {dd : Addr} {f : Str} (hc : c ∈ w.xs) (hf : w.xf c = some f) (q : F dd = some (.xd [(f, v)])) (r : Rep w F v d) : ExD w F c (some d) (some dd)
def Val (w : Wo) (H0 F H : Hp) (own : Nat → List Addr) (v : V) (d : D) (fr : Bool) : Prop :=
  (fr = false ∧ Rep w F v d) ∨ (fr = true ∧ ∃ a vs xs, v = .ref a ∧ d = .lst xs ∧ H0 a = none ∧ H a = some (.lst vs) ∧ F a = none ∧ Reps w F vs xs ∧ vs.length ≤ limN ∧ ∀ i, a ∉ own i)
abbrev Cxs := List (Addr × Str × Option Addr)
section
variable {w : Wo} {cx : Cxs} {s s1 : Sg} {F H F1 H1 F2 H2 H0 : Hp} {σ : L2.St} {own own1 own2 : Nat → List Addr} {nz n1 n2 : Bool} {v : V} {d : D} {fr : Bool}
theorem RS.no (h : RS w cx s F σ H own) {a : Addr} (q : H a = none) : ∀ i, a ∉ own i := fun i ha => by
  obtain ⟨⟨o, e⟩, _⟩ := h.owned ha
  rw [q] at e; cases e
theorem NV.val (n : NV w H F1 H1 v d fr) (rs : RS w cx s F σ H own) (dm : ∀ a, H a = none → H0 a = none) : Val w H0 F1 H1 own v d fr := by
  rcases n with n | ⟨e, a, vs, xs, h1, h2, h3, h4, h5, h6, h7⟩
  · exact .inl n
  · exact .inr ⟨e, a, vs, xs, h1, h2, dm a h3, h4, h5, h6, h7, rs.no h3⟩
theorem Val.bor (h : Val w H0 F H own v d fr) : Bor w F H v d := by
  rcases h with ⟨_, h⟩ | ⟨_, a, vs, xs, h1, h2, _, h4, _, h6, h7, _⟩
  · exact .inl h
  · exact .inr ⟨a, vs, xs, h1, h2, h4, h6, h7⟩
theorem Val.dm {H3 : Hp} (h : Val w H3 F H own v d fr) (dm : ∀ a, H3 a = none → H0 a = none) : Val w H0 F H own v d fr := by
  rcases h with h | ⟨e, a, vs, xs, h1, h2, h3, h4⟩
  · exact .inl h
  · exact .inr ⟨e, a, vs, xs, h1, h2, dm a h3, h4⟩
/-- seen again behind a later step -/
theorem Val.bor2 (h : Val w H0 F H own v d fr) (f : Frm nz F H own F1 H1 own1) : Bor w F1 H1 v d := by
  rcases h with ⟨_, h⟩ | ⟨_, a, vs, xs, h1, h2, _, h4, _, h6, h7, h8⟩
  · exact .inl (h.mono f.ff)
  · exact .inr ⟨a, vs, xs, h1, h2, (f.hh a _ h4 h8).1, h6.mono f.ff, h7⟩
/-- laid for good -/
theorem Val.frz (h : Val w H F1 H1 own1 v d fr) (f : Frm nz F H own F1 H1 own1) (rs : RS w cx s F1 σ H1 own1) : ∃ F2, Sub F1 F2 ∧ Frm nz F H own F2 H1 own1 ∧ RS w cx s F2 σ H1 own1 ∧ Rep w F2 v d := by
  rcases h with ⟨_, h⟩ | ⟨_, a, vs, xs, rfl, rfl, h3, h4, h5, h6, h7, h8⟩
  · exact ⟨F1, .refl _, f, rs, h⟩
  · refine ⟨upd F1 a (.lst vs), sub_upd h5, ⟨f.ff.trans (sub_upd h5), fun c o e hn => ?_, f.hn, f.oo, f.on, f.dm⟩, rs.frz h4 h5 h8, .lst (.inl (.inl upd_same)) (h6.mono (sub_upd h5)) h7⟩
    obtain ⟨e1, e2⟩ := f.hh c o e hn
    exact ⟨e1, fun z => by rw [upd_ne (ne_of_none e h3)]; exact e2 z⟩
/-- a slot's own list is laid for good -/
theorem RS.take (rs : RS w cx s F σ H own) {i : Nat} {p : Bool} {xs : List D} (e : s[i]? = some (.ow p xs)) : ∃ v F1 own1, σ[i]? = some (some v) ∧ Frm nz F H own F1 H own1 ∧ RS w cx (s.set i (.sh (.lst xs))) F1 σ H own1 ∧ Rep w F1 v (.lst xs) := by
  obtain ⟨o, e1, r⟩ := rs.sl i _ e
  generalize ho : own i = A at r
  cases r with
  | @ow _ _ a vs h n r hl =>
    have hi : i < s.length := (List.getElem?_eq_some_iff.mp e).1
    have ha : a ∈ own i := by rw [ho]; exact List.mem_cons_self
    have hs : Sub F (upd F a (.lst vs)) := sub_upd n
    have hr : Rep w (upd F a (.lst vs)) (.ref a) (.lst xs) := .lst (.inl (.inl upd_same)) (r.mono hs) hl
    refine ⟨.ref a, upd F a (.lst vs), ownSet own i [], e1, ⟨hs, fun c o' e' hn => ⟨e', fun z => ?_⟩, fun _ _ _ e => e, fun j c hc => .inl ?_, fun _ j c hc => ?_, fun _ h => h⟩, ⟨by rw [List.length_set]; exact rs.len, sub_upd1 rs.fh h, fun j x ej => ?_, fun j hj => ?_, fun j => ?_, fun j k c hjk hc hd => ?_⟩, hr⟩
    · rw [upd_ne (fun q => hn i (by rw [q]; exact ha))]; exact z
    · by_cases hj : j = i
      · subst hj; rw [ownSet_same] at hc; cases hc
      · rw [ownSet_ne hj] at hc; exact hc
    · by_cases hj : j = i
      · subst hj; rw [ownSet_same] at hc; cases hc
      · rw [ownSet_ne hj] at hc; exact hc
    · by_cases hj : j = i
      · subst hj
        rw [List.getElem?_set_self hi] at ej
        cases ej
        exact ⟨_, e1, by rw [ownSet_same]; exact .sh hr⟩
      · rw [List.getElem?_set_ne (Ne.symm hj)] at ej
        obtain ⟨o', e', r'⟩ := rs.sl j x ej
        refine ⟨o', e', ?_⟩
        rw [ownSet_ne hj]
        refine r'.step hs fun c hc u q => ⟨q, ?_⟩
        have hne : c ≠ a := fun z => rs.dj j i c hj hc (by rw [z]; exact ha)
        rw [upd_ne hne]
        exact (r'.owned c hc).2
    · rw [List.length_set] at hj
      rw [ownSet_ne (by omega)]
      exact rs.out j hj
    · by_cases hj : j = i
      · subst hj; rw [ownSet_same]; exact List.nodup_nil
      · rw [ownSet_ne hj]; exact rs.nd j
    · have h1 : j ≠ i := fun z => by subst z; rw [ownSet_same] at hc; cases hc
      have h2 : k ≠ i := fun z => by subst z; rw [ownSet_same] at hd; cases hd
      rw [ownSet_ne h1] at hc
      rw [ownSet_ne h2] at hd
      exact rs.dj j k c hjk hc hd
theorem FldsR.get {fs : List (Str × Fld)} {vs : List (Str × V)} {A : List Addr} (h : FldsR w F H fs vs A) {f : Str} {x : Fld} (e : fldG fs f = some x) : ∃ v, vs.lookup f = some v ∧ (∀ d, x = .sh d → Rep w F v d) ∧
    (∀ xs, x = .ow xs → ∃ a us, v = .ref a ∧ H a = some (.lst us) ∧ F a = none ∧ Reps w F us xs ∧ us.length ≤ limN ∧ a ∈ A) := by
  induction h with
  | nil => cases e
  | @sh g d v fs vs A h r ih =>
    unfold fldG at e ih
    rw [List.lookup_cons] at e ⊢
    cases hg : f == g with
    | true =>
      rw [hg] at e
      cases e
      exact ⟨v, rfl, fun d q => by cases q; exact h, fun xs q => by cases q⟩
    | false =>
      rw [hg] at e
      exact ih e
  | @ow g xs a us fs vs A h n q hl r ih =>
    unfold fldG at e ih
    rw [List.lookup_cons] at e ⊢
    cases hg : f == g with
    | true =>
      rw [hg] at e
      cases e
      exact ⟨_, rfl, fun d q => (by cases q), fun xs q' => by cases q'; exact ⟨a, us, rfl, h, n, q, hl, List.mem_cons_self⟩⟩
    | false =>
      rw [hg] at e
      obtain ⟨v, e1, e2, e3⟩ := ih e
      exact ⟨v, e1, e2, fun xs q => by
        obtain ⟨a, us, h1, h2, h3, h4, h5, h6⟩ := e3 xs q
        exact ⟨a, us, h1, h2, h3, h4, h5, List.mem_cons_of_mem _ h6⟩⟩
end
section
variable (w : Wo) (cx : Cxs) (W : WX)
def Post (nz : Bool) (σ : L2.St) (F H : Hp) (own : Nat → List Addr) {α : Type} (r : R α) (K : α → Sg → Hp → Hp → (Nat → List Addr) → Prop) : Prop :=
  match r with
  | .ok a s' => ∀ F' H' own', Frm nz F H own F' H' own' → RS w cx s' F' σ H' own' → K a s' F' H' own'
  | .ex c x s' => ∀ F' H' own' dd, Frm nz F H own F' H' own' → RS w cx s' F' σ H' own' → ExD w F' c x dd → W (.ref (w.ca c)) dd σ H'
  | .bad => False
end
section
variable {w : Wo} {cx : Cxs} {W : WX} {s s1 : Sg} {F H F1 H1 F2 H2 H0 : Hp} {σ : L2.St} {own own1 own2 : Nat → List Addr} {nz n1 n2 : Bool} {α β : Type} {K : α → Sg → Hp → Hp → (Nat → List Addr) → Prop}
theorem Post.bnd {r : R β} {f : β → Sg → R α} {K1 : β → Sg → Hp → Hp → (Nat → List Addr) → Prop} (hn : nz = true → n1 = true ∧ n2 = true) (h : Post w cx W nz σ F H own (r.bind f) K)
    (k : ∀ a s1 F1 H1 own1, Frm n1 F H own F1 H1 own1 → RS w cx s1 F1 σ H1 own1 → (∀ F1', Frm n1 F H own F1' H1 own1 → Post w cx W n2 σ F1' H1 own1 (f a s1) K) → K1 a s1 F1 H1 own1) : Post w cx W n1 σ F H own r K1 := by
  cases r with
  | bad => exact h
  | ex c x s' => exact fun F' H' own' dd f rs e => h F' H' own' dd (f.weak fun z => (hn z).1) rs e
  | ok a s' =>
    intro F1 H1 own1 f1 rs
    refine k a s' F1 H1 own1 f1 rs fun F1' f1' => ?_
    have h : Post w cx W nz σ F H own (f a s') K := h
    have fr {F2 H2 own2} (f2 : Frm n2 F1' H1 own1 F2 H2 own2) : Frm nz F H own F2 H2 own2 := (f1'.trans f2).weak fun z => by rw [(hn z).1, (hn z).2]; rfl
    generalize f a s' = r2 at h ⊢
    cases r2 with
    | bad => exact h
    | ex c x s2 => exact fun F2 H2 own2 dd f2 rs e => h F2 H2 own2 dd (fr f2) rs e
    | ok b s2 => exact fun F2 H2 own2 f2 rs => h F2 H2 own2 (fr f2) rs
theorem Post.fin {a : α} (h : Post w cx W nz σ F H own (.ok a s) K) (f : Frm nz F H own F1 H1 own1) (rs : RS w cx s F1 σ H1 own1) : K a s F1 H1 own1 := h F1 H1 own1 f rs
theorem Post.of {o : Option α} (h : Post w cx W nz σ F H own (R.of o s) K) : ∃ a, o = some a ∧ Post w cx W nz σ F H own (.ok a s) K := by
  cases o with
  | none => exact h.elim
  | some a => exact ⟨a, rfl, h⟩
theorem Post.mono {r : R α} {K' : α → Sg → Hp → Hp → (Nat → List Addr) → Prop} (h : Post w cx W nz σ F H own r K) (k : ∀ a s F H own, K a s F H own → K' a s F H own) : Post w cx W nz σ F H own r K' := by
  cases r with
  | bad => exact h
  | ex c x s' => exact h
  | ok a s' => exact fun F1 H1 own1 f rs => k _ _ _ _ _ (h F1 H1 own1 f rs)
theorem Post.weak {r : R α} (h : Post w cx W nz σ F H own r K) (hn : nz = true → n1 = true) : Post w cx W n1 σ F H own r K := by
  cases r with
  | bad => exact h
  | ex c x s' => exact fun F' H' own' dd f rs e => h F' H' own' dd (f.weak hn) rs e
  | ok a s' => exact fun F1 H1 own1 f rs => h F1 H1 own1 (f.weak hn) rs
end
/-- the world of a law: the program, its globals, the defs' meaning at the depth k -/
structure En where
  P : Program
  wd : World
  mg : Str → Option Value
  base : Heap
  w : Wo
  gl : Str → Option D
  call : Call
  k : Nat
  fs : List Str
  fi : List Str
  gn : List Str
  /-- methods: the def, the class, the name; the classes' beginnings -/
  fm : List (Str × Str × Str)
  fk : List (Str × Str)
section
variable (E : En) (cx : Cxs) (W : WX)
/-- what the value v, d is -/
abbrev KVal (H0 : Hp) (Q : VK) : D × Bool → Sg → Hp → Hp → (Nat → List Addr) → Prop := fun p _ F' H' own' => ∀ v, Val E.w H0 F' H' own' v p.1 p.2 → Q v H'
abbrev KBor (Q : VK) : D → Sg → Hp → Hp → (Nat → List Addr) → Prop := fun d _ F' H' _ => ∀ v, Bor E.w F' H' v d → Q v H'
abbrev KTr (Q : Bool → Hp → Prop) : Bool → Sg → Hp → Hp → (Nat → List Addr) → Prop := fun b _ _ H' _ => Q b H'
abbrev KXs (Q : List V → Hp → Prop) : List D → Sg → Hp → Hp → (Nat → List Addr) → Prop := fun ds _ F' H' _ => ∀ vs, Reps E.w F' vs ds → Q vs H'
def tE (il : Ex) : TE := fun σ H Q => ∃ s F own, RS E.w cx s F σ H own ∧ Post E.w cx W il.noio σ F H own (evE E.gl E.call il s) (KVal E H Q)
def tRd (il : Ex) : TE := fun σ H Q => ∃ s F own, RS E.w cx s F σ H own ∧ Post E.w cx W il.noio σ F H own (rd il (evE E.gl E.call il) s) (KBor E Q)
def tT (il : Ex) : TT := fun σ H Q => ∃ s F own, RS E.w cx s F σ H own ∧ Post E.w cx W il.noio σ F H own (evT E.gl E.call il s) (KTr Q)
/-- a test of a value handed on -/
def tTf (il : Ex) : TT := fun σ H Q => ∃ s F own, RS E.w cx s F σ H own ∧ Post E.w cx W il.noio σ F H own ((evE E.gl E.call il s).bind fun x s => R.of (truth x.1) s) (KTr Q)
def tXs (xs : Exs) : TA := fun σ H Q => ∃ s F own, RS E.w cx s F σ H own ∧ Post E.w cx W xs.noio σ F H own (evXs E.gl E.call xs s) (KXs E Q)
def tOx (o : Oex) : TO := fun σ H Q => ∃ s F own, RS E.w cx s F σ H own ∧ Post E.w cx W o.noio σ F H own (evO E.gl E.call o s) (fun i _ _ H' _ => Q i H')
end
def isPl : Ex → Bool
  | .loc _ => true | .fld _ _ => true | .fo _ _ => true | _ => false
theorem rd_np {il : Ex} (h : isPl il = false) (v : Sg → R (D × Bool)) (s : Sg) : rd il v s = (v s).bind fun x s => .ok x.1 s := by
  cases il <;> first | rfl | simp [isPl] at h
section
variable {E : En} {cx : Cxs} {W : WX} {il : Ex} {σ : L2.St} {H : Hp} {Q : VK}
theorem and_nz {a b : Bool} : (a && b) = true → a = true ∧ b = true := by simp
theorem PE.imp {X : Cx} {e : Expr} {t t' : TE} (h : ∀ σ H Q, t' σ H Q → t σ H Q) (p : PE X e t) : PE X e t' := ⟨fun pins s σ H Q I q => p.run pins s σ H Q I (h _ _ _ q)⟩
theorem PT.imp {X : Cx} {e : Expr} {t t' : TT} (h : ∀ σ H Q, t' σ H Q → t σ H Q) (p : PT X e t) : PT X e t' := ⟨fun pins s σ H Q I q => p.run pins s σ H Q I (h _ _ _ q)⟩
theorem PA.imp {X : Cx} {e : List Expr} {t t' : TA} (h : ∀ σ H Q, t' σ H Q → t σ H Q) (p : PA X e t) : PA X e t' := ⟨fun pos pins s σ H Q I q => p.run pos pins s σ H Q I (h _ _ _ q)⟩
theorem PO.imp {X : Cx} {e : Option Expr} {t t' : TO} (h : ∀ σ H Q, t' σ H Q → t σ H Q) (p : PO X e t) : PO X e t' := ⟨fun pins s σ H Q I q => p.run pins s σ H Q I (h _ _ _ q)⟩
theorem tRd_tE (h : isPl il = false) (q : tRd E cx W il σ H Q) : tE E cx W il σ H Q := by
  obtain ⟨s, F, own, rs, p⟩ := q
  rw [rd_np h] at p
  refine ⟨s, F, own, rs, p.bnd (n2 := true) (fun z => ⟨z, rfl⟩) fun a s1 F1 H1 own1 f rs1 c v hv => ?_⟩
  exact (c F1 f).fin .refl rs1 v hv.bor
theorem tTf_tT (h : isPl il = false) {Q : Bool → Hp → Prop} (q : tTf E cx W il σ H Q) : tT E cx W il σ H Q := by
  obtain ⟨s, F, own, rs, p⟩ := q
  refine ⟨s, F, own, rs, ?_⟩
  unfold evT
  rw [rd_np h, R.bind_assoc]
  exact p
/-- an operation's value is the whole's -/
theorem fin_op {s : Sg} {F H0 : Hp} {own : Nat → List Addr} {n : Bool} {o : Option (D × Bool)} (p : Post E.w cx W n σ F H own (R.of o s) (KVal E H0 Q)) (rs : RS E.w cx s F σ H own) (dm : ∀ a, H a = none → H0 a = none) :
    ∃ r fr, o = some (r, fr) ∧ Aft E.w F H r fr Q := by
  obtain ⟨⟨r, fr⟩, e, p⟩ := p.of
  exact ⟨r, fr, e, fun F' H' v ps nv => p.fin (.pst ps) (rs.pst ps) v (nv.val rs dm)⟩
theorem fin_op1 {s : Sg} {F H0 : Hp} {own : Nat → List Addr} {n : Bool} {o : Option D} (p : Post E.w cx W n σ F H own (R.of (o.map fun d => (d, false)) s) (KVal E H0 Q)) (rs : RS E.w cx s F σ H own) (dm : ∀ a, H a = none → H0 a = none) :
    ∃ r, o = some r ∧ Aft E.w F H r false Q := by
  obtain ⟨r, fr, e, q⟩ := fin_op p rs dm
  rw [Option.map_eq_some_iff] at e
  obtain ⟨d, e, h⟩ := e
  cases h
  exact ⟨_, e, q⟩
theorem fin_opB {s : Sg} {F H0 : Hp} {own : Nat → List Addr} {n : Bool} {o : Option Bool} {g : Bool → Bool} (p : Post E.w cx W n σ F H own (R.of (o.map fun b => (.bl (g b), false)) s) (KVal E H0 Q)) (rs : RS E.w cx s F σ H own) (dm : ∀ a, H a = none → H0 a = none) :
    ∃ b, o = some b ∧ Q (.bl (g b)) H := by
  obtain ⟨r, fr, e, q⟩ := fin_op p rs dm
  rw [Option.map_eq_some_iff] at e
  obtain ⟨d, e, h⟩ := e
  cases h
  exact ⟨_, e, q.data rs.fh (.bl _)⟩
end
end IL
end
section
set_option maxHeartbeats 1000000
namespace IL
open PySem PySem.Spec PyProof.Rows L2
section
variable {w : Wo} {cx : Cxs} {s : Sg} {F F' H H' : Hp} {σ : L2.St} {own : Nat → List Addr} {nz : Bool}
theorem FldsR.names {fs : List (Str × Fld)} {vs : List (Str × V)} {A : List Addr} (h : FldsR w F H fs vs A) : vs.map (·.1) = fs.map (·.1) := by
  induction h with
  | nil => rfl
  | sh h r ih => rw [List.map_cons, List.map_cons, ih]
  | ow h n q hl r ih => rw [List.map_cons, List.map_cons, ih]
theorem FldsR.length {fs : List (Str × Fld)} {vs : List (Str × V)} {A : List Addr} (h : FldsR w F H fs vs A) : vs.length = fs.length := by
  have := congrArg List.length h.names
  rwa [List.length_map, List.length_map] at this
theorem lookup_names {α : Type} {f : Str} : ∀ {vs : List (Str × α)}, f ∉ vs.map (·.1) → vs.lookup f = none
  | [], _ => rfl
  | (g, v) :: vs, h => by
    rw [List.map_cons, List.mem_cons, not_or] at h
    rw [List.lookup_cons, show (f == g) = false from by rw [beq_eq_false_iff_ne]; exact h.1]
    exact lookup_names h.2
theorem fldP_names {f : Str} {x : Fld} : ∀ {fs : List (Str × Fld)} {y : Str × Fld}, y ∈ fldP f x fs → y.1 = f ∨ ∃ z ∈ fs, z.1 = y.1
  | [], y, h => by rw [fldP, List.mem_singleton] at h; exact .inl (by rw [h])
  | (g, u) :: r, y, h => by
    rw [fldP] at h
    split at h
    · rename_i hg
      rcases List.mem_cons.mp h with rfl | h
      · exact .inl hg
      · exact .inr ⟨y, List.mem_cons_of_mem _ h, rfl⟩
    · rcases List.mem_cons.mp h with rfl | h
      · exact .inr ⟨(g, u), List.mem_cons_self, rfl⟩
      · rcases fldP_names h with h | ⟨z, hz, e⟩
        · exact .inl h
        · exact .inr ⟨z, List.mem_cons_of_mem _ hz, e⟩
theorem fldG_mem {f : Str} {x : Fld} : ∀ {fs : List (Str × Fld)}, fldG fs f = some x → ∃ y ∈ fs, y.1 = f
  | [], q => by cases q
  | (g, u) :: fs, q => by
    unfold fldG at q
    rw [List.lookup_cons] at q
    cases hg : f == g with
    | true => exact ⟨_, List.mem_cons_self, (beq_iff_eq.mp hg).symm⟩
    | false =>
      rw [hg] at q
      obtain ⟨z, hz, e⟩ := fldG_mem (fs := fs) q
      exact ⟨z, List.mem_cons_of_mem _ hz, e⟩
/-- a field's list is laid for good -/
theorem FldsR.frz {fs : List (Str × Fld)} {vs : List (Str × V)} {A : List Addr} (h : FldsR w F H fs vs A) {f : Str} {xs : List D} (nd : A.Nodup) (e : fldG fs f = some (.ow xs)) : ∃ b us A', vs.lookup f = some (.ref b) ∧ H b = some (.lst us) ∧ F b = none ∧ Reps w F us xs ∧ us.length ≤ limN ∧ b ∈ A ∧
    (∀ a ∈ A', a ∈ A) ∧ b ∉ A' ∧ A'.Nodup ∧ ∀ F1, Sub F F1 → F1 b = some (.lst us) → (∀ a ∈ A', F1 a = none) → FldsR w F1 H (fldP f (.sh (.lst xs)) fs) vs A' := by
  induction h with
  | nil => cases e
  | @sh g d v fs vs A h r ih =>
    unfold fldG at e ih
    rw [List.lookup_cons] at e
    cases hg : f == g with
    | true => rw [hg] at e; cases e
    | false =>
      rw [hg] at e
      obtain ⟨b, us, A', h1, h2, h3, h4, h5, h6, h7, h8, h9, k⟩ := ih nd e
      refine ⟨b, us, A', by rw [List.lookup_cons, hg]; exact h1, h2, h3, h4, h5, h6, h7, h8, h9, fun F1 sf hb hA => ?_⟩
      rw [fldP, if_neg (fun q => by rw [q] at hg; simp at hg)]
      exact .sh (h.mono sf) (k F1 sf hb hA)
  | @ow g xs2 a us2 fs vs A h n q hl r ih =>
    unfold fldG at e ih
    rw [List.lookup_cons] at e
    rw [List.nodup_cons] at nd
    cases hg : f == g with
    | true =>
      rw [hg] at e
      cases e
      refine ⟨a, us2, A, by rw [List.lookup_cons, hg], h, n, q, hl, List.mem_cons_self, fun c hc => List.mem_cons_of_mem _ hc, nd.1, nd.2, fun F1 sf hb hA => ?_⟩
      rw [fldP, if_pos (beq_iff_eq.mp hg).symm]
      refine .sh (.lst (.inl (.inl hb)) (q.mono sf) hl) (r.step sf fun c hc o ho => ⟨ho, hA c hc⟩)
    | false =>
      rw [hg] at e
      obtain ⟨b, us, A', h1, h2, h3, h4, h5, h6, h7, h8, h9, k⟩ := ih nd.2 e
      refine ⟨b, us, a :: A', by rw [List.lookup_cons, hg]; exact h1, h2, h3, h4, h5, List.mem_cons_of_mem _ h6, fun c hc => ?_, fun hc => ?_, List.nodup_cons.mpr ⟨fun hc => nd.1 (h7 a hc), h9⟩, fun F1 sf hb hA => ?_⟩
      · rcases List.mem_cons.mp hc with rfl | hc
        · exact List.mem_cons_self
        · exact List.mem_cons_of_mem _ (h7 c hc)
      · rcases List.mem_cons.mp hc with rfl | hc
        · exact nd.1 h6
        · exact h8 hc
      · rw [fldP, if_neg (fun q => by rw [q] at hg; simp at hg)]
        exact .ow h (hA a List.mem_cons_self) (q.mono sf) hl (k F1 sf hb fun c hc => hA c (List.mem_cons_of_mem _ hc))
/-- data stored at a field -/
theorem FldsR.putS {fs : List (Str × Fld)} {vs : List (Str × V)} {A : List Addr} (h : FldsR w F H fs vs A) {f : Str} {d : D} {v : V} (nd : A.Nodup) (hv : Rep w F v d) : ∃ A', FldsR w F H (fldP f (.sh d) fs) (putF f v vs) A' ∧ (∀ a ∈ A', a ∈ A) ∧ A'.Nodup := by
  induction h with
  | nil => exact ⟨[], .sh hv .nil, fun _ h => h, .nil⟩
  | @sh g d2 v2 fs vs A h r ih =>
    by_cases hg : g = f
    · refine ⟨A, ?_, fun _ h => h, nd⟩
      rw [fldP, if_pos hg, L2.putF, if_pos hg]
      exact .sh hv r
    · obtain ⟨A', h1, h2, h3⟩ := ih nd
      refine ⟨A', ?_, h2, h3⟩
      rw [fldP, if_neg hg, L2.putF, if_neg hg]
      exact .sh h h1
  | @ow g xs2 a us2 fs vs A h n q hl r ih =>
    rw [List.nodup_cons] at nd
    by_cases hg : g = f
    · refine ⟨A, ?_, fun c hc => List.mem_cons_of_mem _ hc, nd.2⟩
      rw [fldP, if_pos hg, L2.putF, if_pos hg]
      exact .sh hv r
    · obtain ⟨A', h1, h2, h3⟩ := ih nd.2
      refine ⟨a :: A', ?_, fun c hc => ?_, List.nodup_cons.mpr ⟨fun hc => nd.1 (h2 a hc), h3⟩⟩
      · rw [fldP, if_neg hg, L2.putF, if_neg hg]
        exact .ow h n q hl h1
      · rcases List.mem_cons.mp hc with rfl | hc
        · exact List.mem_cons_self
        · exact List.mem_cons_of_mem _ (h2 c hc)
/-- a new list stored at a field -/
theorem FldsR.putO {fs : List (Str × Fld)} {vs : List (Str × V)} {A : List Addr} (h : FldsR w F H fs vs A) {f : Str} {xs : List D} {b : Addr} {us : List V} (nd : A.Nodup) (hb : b ∉ A) (h1 : H b = some (.lst us)) (h2 : F b = none) (h3 : Reps w F us xs) (h4 : us.length ≤ limN) :
    ∃ A', FldsR w F H (fldP f (.ow xs) fs) (putF f (.ref b) vs) A' ∧ (∀ a ∈ A', a = b ∨ a ∈ A) ∧ A'.Nodup := by
  induction h with
  | nil => exact ⟨[b], .ow h1 h2 h3 h4 .nil, fun a ha => .inl (by simpa using ha), List.nodup_cons.mpr ⟨by simp, .nil⟩⟩
  | @sh g d2 v2 fs vs A h r ih =>
    by_cases hg : g = f
    · refine ⟨b :: A, ?_, fun a ha => List.mem_cons.mp ha, List.nodup_cons.mpr ⟨hb, nd⟩⟩
      rw [fldP, if_pos hg, L2.putF, if_pos hg]
      exact .ow h1 h2 h3 h4 r
    · obtain ⟨A', k1, k2, k3⟩ := ih nd hb
      refine ⟨A', ?_, k2, k3⟩
      rw [fldP, if_neg hg, L2.putF, if_neg hg]
      exact .sh h k1
  | @ow g xs2 a us2 fs vs A h n q hl r ih =>
    rw [List.nodup_cons] at nd
    rw [List.mem_cons, not_or] at hb
    by_cases hg : g = f
    · refine ⟨b :: A, ?_, fun c hc => ?_, List.nodup_cons.mpr ⟨hb.2, nd.2⟩⟩
      · rw [fldP, if_pos hg, L2.putF, if_pos hg]
        exact .ow h1 h2 h3 h4 r
      · rcases List.mem_cons.mp hc with h | h
        · exact .inl h
        · exact .inr (List.mem_cons_of_mem _ h)
    · obtain ⟨A', k1, k2, k3⟩ := ih nd.2 hb.2
      refine ⟨a :: A', ?_, fun c hc => ?_, List.nodup_cons.mpr ⟨fun hc => ?_, k3⟩⟩
      · rw [fldP, if_neg hg, L2.putF, if_neg hg]
        exact .ow h n q hl k1
      · rcases List.mem_cons.mp hc with rfl | hc
        · exact .inr List.mem_cons_self
        · rcases k2 c hc with h | h
          · exact .inl h
          · exact .inr (List.mem_cons_of_mem _ h)
      · rcases k2 a hc with h | h
        · exact hb.1 h.symm
        · exact nd.1 h
/-- a field's list changed -/
theorem FldsR.chg {fs : List (Str × Fld)} {vs : List (Str × V)} {A : List Addr} (h : FldsR w F H fs vs A) {f : Str} {xs xs' : List D} {b : Addr} {us' : List V} (nd : A.Nodup) (e : fldG fs f = some (.ow xs)) (el : vs.lookup f = some (.ref b)) (hr : Reps w F us' xs') (hl' : us'.length ≤ limN) :
    FldsR w F (upd H b (.lst us')) (fldP f (.ow xs') fs) vs A ∧ b ∈ A := by
  induction h with
  | nil => cases e
  | @sh g d v fs vs A h r ih =>
    unfold fldG at e ih
    rw [List.lookup_cons] at e el
    cases hg : f == g with
    | true => rw [hg] at e; cases e
    | false =>
      rw [hg] at e el
      obtain ⟨k1, k2⟩ := ih nd e el
      refine ⟨?_, k2⟩
      rw [fldP, if_neg (fun q => by rw [q] at hg; simp at hg)]
      exact .sh h k1
  | @ow g xs2 a us2 fs vs A h n q hl r ih =>
    unfold fldG at e ih
    rw [List.lookup_cons] at e el
    rw [List.nodup_cons] at nd
    cases hg : f == g with
    | true =>
      rw [hg] at e el
      cases e
      cases el
      refine ⟨?_, List.mem_cons_self⟩
      rw [fldP, if_pos (beq_iff_eq.mp hg).symm]
      exact .ow upd_same n hr hl' (r.step (.refl _) fun c hc o ho => ⟨by rw [upd_ne (show c ≠ b from fun z => nd.1 (by rw [← z]; exact hc))]; exact ho, (r.owned c hc).2⟩)
    | false =>
      rw [hg] at e el
      obtain ⟨k1, k2⟩ := ih nd.2 e el
      refine ⟨?_, List.mem_cons_of_mem _ k2⟩
      rw [fldP, if_neg (fun q => by rw [q] at hg; simp at hg)]
      exact .ow (by rw [upd_ne (show a ≠ b from fun z => nd.1 (by rw [z]; exact k2))]; exact h) n q hl k1
/-- a field of the object in a slot -/
theorem RS.fslot (rs : RS w cx s F σ H own) {i : Nat} {f : Str} {r : D} {s' : Sg} (e : readO s i f = .ok r s') : s' = s ∧ ∃ a dx c fs v, σ[i]? = some (some (.ref a)) ∧ H a = some (.ins (w.ca c) dx fs) ∧ c ∈ w.cl ∧ f ∈ clsF c ∧ fs.lookup f = some v ∧ Bor w F H v r := by
  unfold readO at e
  split at e
  · rename_i p c fs h
    obtain ⟨o, e1, r1⟩ := rs.sl i _ h
    generalize own i = A at r1
    cases r1 with
    | @ob _ _ _ a dx vs A h n r hc hn =>
      have hnm : ∀ x, fldG fs f = some x → f ∈ clsF c := fun x q => by
        obtain ⟨y, hy, e⟩ := fldG_mem q
        rw [← e]; exact hn y hy
      split at e
      · rename_i d q
        cases e
        obtain ⟨v, h1, h2, _⟩ := r.get q
        exact ⟨rfl, a, dx, c, vs, v, e1, h, hc, hnm _ q, h1, .inl (h2 _ rfl)⟩
      · rename_i xs q
        cases e
        obtain ⟨v, h1, _, h3⟩ := r.get q
        obtain ⟨b, us, k1, k2, k3, k4, k5, _⟩ := h3 xs rfl
        exact ⟨rfl, a, dx, c, vs, v, e1, h, hc, hnm _ q, h1, .inr ⟨b, us, xs, k1, rfl, k2, k4, k5⟩⟩
      · cases e
  · cases e
/-- .. taken: a list of its own is laid for good -/
theorem RS.takeO (rs : RS w cx s F σ H own) {i : Nat} {f : Str} {r : D × Bool} {s' : Sg} (e : IL.takeO s i f = .ok r s') : r.2 = false ∧ ∃ a dx c fs v F1 own1, σ[i]? = some (some (.ref a)) ∧ H a = some (.ins (w.ca c) dx fs) ∧ c ∈ w.cl ∧ f ∈ clsF c ∧ fs.lookup f = some v ∧ Frm nz F H own F1 H own1 ∧ RS w cx s' F1 σ H own1 ∧ Rep w F1 v r.1 := by
  have hrd : ∃ d, readO s i f = .ok d s := by
    unfold IL.takeO at e
    unfold readO
    split at e
    · rename_i p c fs h
      split at e
      · rename_i d q; exact ⟨_, rfl⟩
      · rename_i xs q; exact ⟨_, rfl⟩
      · cases e
    · cases e
  obtain ⟨d, hd⟩ := hrd
  obtain ⟨_, a, dx, c, vs, v, e1, h, hc, hf, hl, hb⟩ := rs.fslot hd
  unfold IL.takeO at e
  unfold readO at hd
  split at e
  · rename_i p c' fs hs
    rw [hs] at hd
    simp only at hd
    split at e
    · rename_i d' q
      cases e
      rw [q] at hd
      cases hd
      obtain ⟨o, e2, r1⟩ := rs.sl i _ hs
      generalize own i = A at r1
      cases r1 with
      | @ob _ _ _ a' dx' vs' A h' n r hc' hn =>
        rw [e1] at e2
        cases e2
        have q3 := h.symm.trans h'
        simp only [Option.some.injEq, HO.ins.injEq] at q3
        obtain ⟨_, rfl, rfl⟩ := q3
        obtain ⟨v', h1, h2, _⟩ := r.get q
        rw [hl] at h1
        cases h1
        exact ⟨rfl, a, dx, c, vs, v, F, own, e1, h, hc, hf, hl, .refl, rs, h2 d rfl⟩
    · rename_i xs q
      cases e
      obtain ⟨o, e2, r1⟩ := rs.sl i _ hs
      have hnd := rs.nd i
      generalize hA : own i = A at r1 hnd
      cases r1 with
      | @ob _ _ _ a' dx' vs' A h' n r hc' hn =>
        rw [e1] at e2
        cases e2
        rw [List.nodup_cons] at hnd
        obtain ⟨b, us, A', k1, k2, k3, k4, k5, k6, k7, k8, k9, k⟩ := r.frz hnd.2 q
        have q3 := h.symm.trans h'
        simp only [Option.some.injEq, HO.ins.injEq] at q3
        obtain ⟨_, rfl, rfl⟩ := q3
        rw [hl] at k1
        cases k1
        have hi : i < s.length := (List.getElem?_eq_some_iff.mp hs).1
        have hbi : b ∈ own i := by rw [hA]; exact List.mem_cons_of_mem _ k6
        have hs1 : Sub F (upd F b (.lst us)) := sub_upd k3
        have hba : b ≠ a := fun z => hnd.1 (by rw [← z]; exact k6)
        have hr : Rep w (upd F b (.lst us)) (.ref b) (.lst xs) := .lst (.inl (.inl upd_same)) (k4.mono hs1) k5
        have sub : ∀ j x, x ∈ ownSet own i (a :: A') j → x ∈ own j := fun j x hx => by
          by_cases hj : j = i
          · subst hj
            rw [ownSet_same] at hx
            rw [hA]
            rcases List.mem_cons.mp hx with rfl | hx
            · exact List.mem_cons_self
            · exact List.mem_cons_of_mem _ (k7 x hx)
          · rw [ownSet_ne hj] at hx; exact hx
        refine ⟨rfl, a, _, c, _, .ref b, upd F b (.lst us), ownSet own i (a :: A'), e1, h, hc, hf, hl, ⟨hs1, fun x o' e' hn => ⟨e', fun z => ?_⟩, fun _ _ _ e => e, fun j x hx => .inl (sub j x hx), fun _ j x hx => sub j x hx, fun _ h => h⟩, ⟨by rw [List.length_set]; exact rs.len, sub_upd1 rs.fh k2, fun j x ej => ?_, fun j hj => ?_, fun j => ?_, fun j l x hjl hx hy => ?_⟩, hr⟩
        · rw [upd_ne (fun q => hn i (by rw [q]; exact hbi))]; exact z
        · by_cases hj : j = i
          · subst hj
            rw [List.getElem?_set_self hi] at ej
            cases ej
            refine ⟨_, e1, ?_⟩
            rw [ownSet_same]
            refine .ob h' ?_ (k _ hs1 upd_same fun x hx => ?_) hc' fun y hy => ?_
            · rw [upd_ne hba.symm]; exact n
            · rw [upd_ne (show x ≠ b from fun z => k8 (by rw [← z]; exact hx))]; exact (r.owned x (k7 x hx)).2
            · rcases fldP_names hy with e | ⟨z, hz, e⟩
              · have hmem := fldG_mem q
                obtain ⟨z, hz, e2⟩ := hmem
                rw [e, ← e2]; exact hn z hz
              · rw [← e]; exact hn z hz
          · rw [List.getElem?_set_ne (Ne.symm hj)] at ej
            obtain ⟨o', e', r'⟩ := rs.sl j x ej
            refine ⟨o', e', ?_⟩
            rw [ownSet_ne hj]
            refine r'.step hs1 fun y hy u q => ⟨q, ?_⟩
            have hne : y ≠ b := fun z => rs.dj j i y hj hy (by rw [z]; exact hbi)
            rw [upd_ne hne]
            exact (r'.owned y hy).2
        · rw [List.length_set] at hj
          rw [ownSet_ne (by omega)]
          exact rs.out j hj
        · by_cases hj : j = i
          · subst hj; rw [ownSet_same]; exact List.nodup_cons.mpr ⟨fun z => hnd.1 (k7 a z), k9⟩
          · rw [ownSet_ne hj]; exact rs.nd j
        · exact rs.dj j l x hjl (sub j x hx) (sub l x hy)
    · cases e
  · cases e
end
end IL
end
section
set_option maxHeartbeats 1000000
namespace IL
open PySem PySem.Spec PyProof.Rows L2
section
variable {X : Cx} {a b c e : Expr} {ta tb tc : TE} {tA tB' : TT} {pos : Pos} {rest : List Expr}
def tAndG (K : PySem.W.Frag) (ta tb : TE) : TE := fun σ H Q => ta σ H fun x H1 => ∃ k, TruV K x H1 k ∧ if k = true then tb σ H1 Q else Q x H1
def tOrG (K : PySem.W.Frag) (ta tb : TE) : TE := fun σ H Q => ta σ H fun x H1 => ∃ k, TruV K x H1 k ∧ if k = true then Q x H1 else tb σ H1 Q
def tNotG (K : PySem.W.Frag) (ta : TE) : TE := fun σ H Q => ta σ H fun x H1 => ∃ k, TruV K x H1 k ∧ Q (.bl (!k)) H1
theorem pe_andG (ha : PE X a ta) (hb : PE X (.BoolOp .And (b :: rest) pos) tb) : PE X (.BoolOp .And (a :: b :: rest) pos) (tAndG X.K ta tb) := by
  refine ⟨fun pins s σ H Q I h => ?_⟩
  refine BoolOp_and (thn (ha.run pins s σ H _ I h) fun v s1 ⟨x, H1, I1, r1, k, q1, q2⟩ => ?_)
  refine thn (tru_ok pins s1 σ H1 x v (fun k' H2 => k' = k ∧ H2 = H1) I1 r1 ⟨k, q1, rfl, rfl⟩) fun k' s2 ⟨H2, I2, e1, e2⟩ => ?_
  subst e1 e2
  cases k' with
  | true => exact hb.run pins s2 σ H2 Q I2 q2
  | false => exact ⟨x, H2, I2, r1, q2⟩
theorem pe_orG (ha : PE X a ta) (hb : PE X (.BoolOp .Or (b :: rest) pos) tb) : PE X (.BoolOp .Or (a :: b :: rest) pos) (tOrG X.K ta tb) := by
  refine ⟨fun pins s σ H Q I h => ?_⟩
  refine BoolOp_or (thn (ha.run pins s σ H _ I h) fun v s1 ⟨x, H1, I1, r1, k, q1, q2⟩ => ?_)
  refine thn (tru_ok pins s1 σ H1 x v (fun k' H2 => k' = k ∧ H2 = H1) I1 r1 ⟨k, q1, rfl, rfl⟩) fun k' s2 ⟨H2, I2, e1, e2⟩ => ?_
  subst e1 e2
  cases k' with
  | false => exact hb.run pins s2 σ H2 Q I2 q2
  | true => exact ⟨x, H2, I2, r1, q2⟩
theorem pe_notG (ha : PE X a ta) : PE X (.UnaryOp .Not a pos) (tNotG X.K ta) := by
  refine ⟨fun pins s σ H Q I h => ?_⟩
  refine UnaryOp_ (thn (ha.run pins s σ H _ I h) fun v s1 ⟨x, H1, I1, r1, k, q1, q2⟩ => ?_)
  refine not_of (thn (tru_ok pins s1 σ H1 x v (fun k' H2 => k' = k ∧ H2 = H1) I1 r1 ⟨k, q1, rfl, rfl⟩) fun k' s2 ⟨H2, I2, e1, e2⟩ => ?_)
  subst e1 e2
  exact ⟨.bl (!k'), H2, I2, rfl, q2⟩
theorem pt_ifG {tC tD : TT} (hc : PT X c tA) (ha : PT X a tC) (hb : PT X b tD) : PT X (.IfExp c a b pos) (fun σ H Q => tA σ H fun k H1 => if k = true then tC σ H1 Q else tD σ H1 Q) := by
  refine ⟨fun pins s σ H Q I h => ?_⟩
  refine isTrue_IfExp (thn (hc.run pins s σ H _ I h) fun d s1 ⟨H1, I1, q1⟩ => ?_)
  cases d with
  | true => exact ha.run pins s1 σ H1 Q I1 q1
  | false => exact hb.run pins s1 σ H1 Q I1 q1
end
structure Cn where
  N : List Str
  sc : Scope
  calm : Bool
  fs : List Str
  fi : List Str
  /-- is the first parameter's thing changed? -/
  io : Bool
  /-- the errors' classes -/
  xs : List Str
  /-- the cells that may be stored at -/
  cs : List Str
  /-- the globals that hold data -/
  gn : List Str
  fm : List (Str × Str × Str)
  fk : List (Str × Str)
def isLoc (C : Cn) (i : Nat) (x : Str) : Bool := C.N[i]? == some x && (match C.sc.names.lookup x with | some .local => true | some .cell => true | some .free => true | _ => false) && !(x == ("__debug__" : Str)) && !(x == ("__classdict__" : Str))
def isGlo (C : Cn) (x : Str) : Bool := C.sc.names.lookup x == some .globalImplicit && !(x == ("__debug__" : Str))
def litC : Lit → Const → Bool
  | .non, .none => true | .bl a, .bool b => a == b | .int i, .int j => i == j | .str x, .str y => x == y && PyData.strOk x && decide (x.length ≤ limN) | _, _ => false
def bltN : Blt → Str
  | .len => "len" | .abs => "abs" | .min2 => "min" | .max2 => "max" | .int => "int" | .tuple => "tuple" | .list => "list" | .all => "all" | .any => "any" | .sum => "sum" | .str => "str" | .rev => "str"
def tyNm : Ty → Str
  | .int => "int" | .bool => "bool" | .str => "str" | .tuple => "tuple" | .list => "list" | .cls c => c
def noSuper : Expr → Bool
  | .Call (.Name _ _) [] [] _ => false | _ => true
/-- the names of built-in things that the module must not bind -/
def bltNames : List Str := ["len", "abs", "min", "max", "int", "tuple", "list", "all", "any", "sum", "str", "bool", "isinstance", "range", "enumerate", "zip", "set"]
/-- a class as it is written -/
def chkTy (C : Cn) : Ty → Expr → Bool
  | t, .Name x _ => isB t && x == tyNm t && isGlo C x
  | _, _ => false
def chkTys (C : Cn) : List Ty → List Expr → Bool
  | [], [] => true
  | t :: ts, e :: es => chkTy C t e && chkTys C ts es
  | _, _ => false
/-- what is known of the run at hand -/
structure Good (E : En) (C : Cn) (X : Cx) (cx : Cxs) (W : WX) : Prop where
  P : X.prog = E.P
  wd : X.w = E.wd
  K : E.w.K = X.K
  mg : X.mg = E.mg
  base : X.base = E.base
  N : X.N = C.N
  nd : C.N.Nodup
  sc : X.env.scope = C.sc
  calm : X.calm = C.calm
  fs : C.fs = E.fs
  fi : C.fi = E.fi
  xs : C.xs = E.w.xs
  gn : C.gn = E.gn
  fm : C.fm = E.fm
  fk : C.fk = E.fk
  tk : Takes X W
  room : C.calm = true → Room (E.k + 1) X.A
  un : X.A.units + 64 < cLine
  fn : ∀ x ∈ C.cs, X.fn x = true
  /-- outside of suites no error is held -/
  nx : C.calm = true → cx = []
  /-- within a suite: the error that it holds -/
  cxo : cx = [] ∨ ∃ (X0 : Cx) (a : Addr) (oe : Obj) (pn : List (Addr × Obj)) (c : Str) (dd : Option Addr), X = X0.suite a ((a, oe) :: pn) ∧ Zc (.ref (E.w.ca c)) dd oe ∧ (∃ vs, oe.data = .fields vs) ∧ cx = [(a, c, dd)] ∧ c ∈ E.w.xs
/-- what is known of the law's world -/
structure EnOk (E : En) : Prop where
  gl : ∀ x ∈ E.gn, ∀ d, E.gl x = some d → ∃ v u, E.mg x = some u ∧ RelV v u ∧ ∀ F, Rep E.w F v d
  blt : ∀ x ∈ bltNames, E.mg x = none
  xf : E.w.xf = fldOf
  xr : ∀ c ∈ E.w.xs, ∀ f, fldOf c = some f → XfC E.w.K (E.w.ca c) ∧ PySem.W.findIn E.w.K (.ref (E.w.ca c)) f = some none
  cl : ∀ c ∈ E.w.cl, Cls E.w.K (E.w.ca c) ∧ ∀ f ∈ clsF c, NoAttr E.w.K (E.w.ca c) f
def spD (E : En) (f : Str) (n : Nat) : Sp := fun vs H Q Ex => vs.length = n ∧ ∃ F ds, Sub F H ∧ Reps E.w F vs ds ∧ match E.call f .un ds with
  | .ret d fr _ => ∀ F' H' v, Pst F H F' H' → NV E.w H F' H' v d fr → Q v H'
  | .ex c x _ => ∀ F' H' dd, Pst F H F' H' → ExD E.w F' c x dd → Ex (.ref (E.w.ca c)) dd H'
  | .bad => False
def own0 (A : List Addr) : Nat → List Addr := fun i => if i = 0 then A else []
/-- a def that may change its first parameter's thing -/
def spI (E : En) (f : Str) (n : Nat) : Sp := fun vs H Q Ex => vs.length = n ∧ ∃ F v0 rest ds io A, vs = v0 :: rest ∧ Sub F H ∧ SlotR E.w [] F H io (some v0) A ∧ A.Nodup ∧ Reps E.w F rest ds ∧ match E.call f io ds with
  | .ret d fr io' => ∀ F' H' A' v, Sub F' H' → Frm false F H (own0 A) F' H' (own0 A') → SlotR E.w [] F' H' io' (some v0) A' → A'.Nodup → Val E.w H F' H' (own0 A') v d fr → Q v H'
  | .ex c x io' => ∀ F' H' A' dd, Sub F' H' → Frm false F H (own0 A) F' H' (own0 A') → SlotR E.w [] F' H' io' (some v0) A' → A'.Nodup → ExD E.w F' c x dd → Ex (.ref (E.w.ca c)) dd H'
  | .bad => False
/-- the defs are what they are said to be -/
structure FnsOk (E : En) : Prop where
  call : ∀ f ∈ E.fs, ∃ a fd ps, E.mg f = some (.ref a) ∧ PySem.W.keepIn E.w.K (.ref a) = true ∧ Binds E.w.K fd ps [] ∧ FnOk E.P E.wd E.w.K E.mg E.base (L2.CX E.P E.wd) E.k a fd ps (spD E f ps.length) ∧ ∀ ds, E.call f .un ds ≠ .bad → ds.length = ps.length
  calI : ∀ f ∈ E.fi, ∃ a fd ps, E.mg f = some (.ref a) ∧ PySem.W.keepIn E.w.K (.ref a) = true ∧ Binds E.w.K fd ps [] ∧ FnOk E.P E.wd E.w.K E.mg E.base (L2.CX E.P E.wd) E.k a fd ps (spI E f ps.length) ∧ (∀ io ds, E.call f io ds ≠ .bad → ds.length + 1 = ps.length) ∧ ∀ c x ds, E.call f (.exn c x) ds = .bad
  calM : ∀ y ∈ E.fm, ∃ a fd ps, y.2.1 ∈ E.w.cl ∧ Meth E.w.K (E.w.ca y.2.1) y.2.2 a ∧ y.2.2 ∉ clsF y.2.1 ∧ Binds E.w.K fd ps [] ∧ FnOk E.P E.wd E.w.K E.mg E.base (L2.CX E.P E.wd) E.k a fd ps (spI E y.1 ps.length) ∧ (∀ io ds, E.call y.1 io ds ≠ .bad → ds.length + 1 = ps.length) ∧ ∀ c x ds, E.call y.1 (.exn c x) ds = .bad
  calK : ∀ y ∈ E.fk, ∃ a fd ps, y.2 ∈ E.w.cl ∧ E.mg y.2 = some (.ref (E.w.ca y.2)) ∧ Mk E.w.K (E.w.ca y.2) a ∧ Binds E.w.K fd ps [] ∧ FnOk E.P E.wd E.w.K E.mg E.base (L2.CX E.P E.wd) E.k a fd ps (spI E y.1 ps.length) ∧ (∀ io ds, E.call y.1 io ds ≠ .bad → ds.length + 1 = ps.length)
section
variable {E : En} {C : Cn} {X : Cx} {cx : Cxs} {W : WX}
theorem Good.rm (g : Good E C X cx W) (h : C.calm = true) : Room E.k X.A := (g.room h).mono (Nat.le_succ _)
theorem Good.vis (g : Good E C X cx W) {i : Nat} {x : Str} (h : isLoc C i x = true) : X.N[i]? = some x ∧ Vis X.env.scope x ∧ (x == ("__debug__" : Str)) = false ∧ (x == ("__classdict__" : Str)) = false := by
  unfold isLoc at h
  simp only [Bool.and_eq_true, Bool.not_eq_true', beq_iff_eq] at h
  obtain ⟨⟨⟨h1, h2⟩, h3⟩, h4⟩ := h
  refine ⟨by rw [g.N]; exact h1, ?_, h3, h4⟩
  unfold Vis
  rw [g.sc]
  revert h2
  generalize C.sc.names.lookup x = o
  intro h2
  split at h2 <;> simp_all
theorem Good.glo (g : Good E C X cx W) {x : Str} (h : isGlo C x = true) : Gl X x ∧ (x == ("__debug__" : Str)) = false := by
  unfold isGlo at h
  simp only [Bool.and_eq_true, Bool.not_eq_true', beq_iff_eq] at h
  refine ⟨?_, h.2⟩
  show X.env.scope.names.lookup x = _
  rw [g.sc]; exact h.1
theorem Good.blt (g : Good E C X cx W) (k : EnOk E) {x : Str} (h : x ∈ bltNames) : X.mg x = none := by rw [g.mg]; exact k.blt x h
theorem star_of {e : Expr} {es : List Expr} {env : Env} (h : ∀ x p, e ≠ .Starred x p) : starEach (e :: es) env = (false, eval e env) :: starEach es env := by
  cases e <;> first | exact absurd rfl (h _ _) | rfl
/-- no star among them -/
def noStar : List Expr → Bool
  | [] => true
  | .Starred _ _ :: _ => false
  | _ :: r => noStar r
theorem noStar_cons {e : Expr} {es : List Expr} (h : noStar (e :: es) = true) : (∀ x p, e ≠ .Starred x p) ∧ noStar es = true := by
  cases e <;> simp only [noStar] at h <;> first | exact ⟨(by intro _ _ q; cases q), h⟩ | exact absurd h (by decide)
theorem noStar_any {es : List Expr} {env : Env} {pos : Pos} (h : noStar es = true) : (backTo pos (starEach es env)).any (·.1) = false := by
  induction es with
  | nil => rfl
  | cons e es ih =>
    obtain ⟨h1, h2⟩ := noStar_cons h
    rw [star_of h1]
    show (false || (backTo pos (starEach es env)).any (·.1)) = false
    rw [ih h2]; rfl
theorem base_of {o : Expr} {x : Str} {env : Env} {v : Sem Value} (h : noSuper o = true) : attributeBase o x env v = v := by
  cases o with
  | Call f args kw p =>
    cases f with
    | Name id p' =>
      cases args with
      | nil =>
        cases kw with
        | nil => simp [noSuper] at h
        | cons _ _ => rfl
      | cons _ _ => rfl
    | _ => rfl
  | _ => rfl
end
/-- a field's value, as it is -/
def tFv (w : Wo) (i : Nat) (f : Str) : TE := fun σ H Q => ∃ a dx c fs v, σ[i]? = some (some (.ref a)) ∧ H a = some (.ins (w.ca c) dx fs) ∧ c ∈ w.cl ∧ f ∈ clsF c ∧ fs.lookup f = some v ∧ Q v H
def tLate (E : En) (cx : Cxs) (W : WX) (a b : Ex) : TE := if late a b then (match a with | .loc i => tVar i | .fo i f => tFv E.w i f | _ => tE E cx W a) else tE E cx W a
def noFld : Ex → Bool
  | _ => true
section
variable {E : En} {cx : Cxs} {W : WX} {σ : L2.St} {H : Hp} {Q : VK}
theorem RS.slot {w : Wo} {s : Sg} {F : Hp} {own : Nat → List Addr} (rs : RS w cx s F σ H own) {i : Nat} {r : D} {s' : Sg} (e : readS s i = .ok r s') : s' = s ∧ ∃ v, σ[i]? = some (some v) ∧ Bor w F H v r := by
  unfold readS at e
  split at e
  · rename_i d h
    cases e
    obtain ⟨o, e1, r⟩ := rs.sl i _ h
    generalize own i = A at r
    cases r with
    | sh h => exact ⟨rfl, _, e1, .inl h⟩
  · rename_i p xs h
    cases e
    obtain ⟨o, e1, r⟩ := rs.sl i _ h
    generalize own i = A at r
    cases r with
    | ow h n r hl => exact ⟨rfl, _, e1, .inr ⟨_, _, _, rfl, rfl, h, r, hl⟩⟩
  · cases e
theorem late_loc {a b : Ex} (h : late a b = true) (hf : noFld a = true) : (∃ i, a = .loc i) ∨ ∃ i f, a = .fo i f ∧ b.noio = true := by
  cases a <;> simp [late, noFld] at h hf
  · exact .inl ⟨_, rfl⟩
  · exact .inr ⟨_, _, rfl, h⟩
theorem ins_inj {o : Option HO} {C C' dx dx' : Addr} {fs fs' : List (Str × V)} (h : o = some (.ins C dx fs)) (h' : o = some (.ins C' dx' fs')) : fs' = fs := by
  have q := h.symm.trans h'
  simp only [Option.some.injEq, HO.ins.injEq] at q
  exact q.2.2.symm
/-- two operands, then an operation -/
theorem two_op {a b : Ex} {G : R2} {f : D × D → Sg → R (D × Bool)} {nz : Bool} {K : D × Bool → Sg → Hp → Hp → (Nat → List Addr) → Prop} (hf : noFld a = true) (hnz : nz = true → a.noio = true ∧ b.noio = true)
    (fin : ∀ x y s2 F2 H2 own2 vx vy n, RS E.w cx s2 F2 σ H2 own2 → Bor E.w F2 H2 vx x → Bor E.w F2 H2 vy y → (∀ a, H2 a = none → H a = none) → Post E.w cx W n σ F2 H2 own2 (f (x, y) s2) K → G vx vy H2 Q)
    (h : ∃ s F own, RS E.w cx s F σ H own ∧ Post E.w cx W nz σ F H own ((two a b (evE E.gl E.call a) (evE E.gl E.call b) s).bind f) K) : tOp G (tLate E cx W a b) (tRd E cx W b) σ H Q := by
  obtain ⟨s, F, own, rs, p⟩ := h
  unfold tLate two at *
  cases hl : late a b with
  | false =>
    rw [hl] at p
    simp only [Bool.false_eq_true, if_false, R.bind_assoc, R.bind_ok] at p ⊢
    refine ⟨s, F, own, rs, p.bnd hnz fun x s1 F1 H1 own1 f1 rs1 c vx hv => ?_⟩
    refine ⟨s1, F1, own1, rs1, (c F1 f1).bnd (n2 := true) (fun z => ⟨z, rfl⟩) fun y s2 F2 H2 own2 f2 rs2 c2 vy hy => ?_⟩
    exact fin x.1 y s2 F2 H2 own2 vx vy _ rs2 (hv.bor2 f2) hy (fun a q => f1.dm a (f2.dm a q)) (c2 F2 f2)
  | true =>
    rw [hl] at p
    rcases late_loc hl hf with ⟨i, rfl⟩ | ⟨i, g, rfl, hbn⟩
    rotate_left
    · simp only [if_true, R.bind_assoc, R.bind_ok] at p ⊢
      show ∃ a dx c fs v, σ[i]? = some (some (.ref a)) ∧ H a = some (.ins (E.w.ca c) dx fs) ∧ c ∈ E.w.cl ∧ g ∈ clsF c ∧ fs.lookup g = some v ∧ tRd E cx W b σ H fun y H2 => G v y H2 Q
      have p' : Post E.w cx W nz σ F H own ((readO s i g).bind fun _ s => (rd b (evE E.gl E.call b) s).bind fun y s => (readO s i g).bind fun x s => f (x, y) s) K := p
      cases q : readO s i g with
      | bad => rw [q] at p'; exact p'.elim
      | ex c x s' => unfold readO at q; split at q <;> (try split at q) <;> cases q
      | ok r s' =>
        rw [q] at p'
        obtain ⟨rfl, a, dx, c, fs, v, e1, e2, e3, e4, e5, _⟩ := rs.fslot q
        refine ⟨a, dx, c, fs, v, e1, e2, e3, e4, e5, s', F, own, rs, Post.bnd (nz := nz) (f := fun y s => (readO s i g).bind fun x s => f (x, y) s) (n2 := true) (fun z => ⟨(hnz z).2, rfl⟩) p' fun y s2 F2 H2 own2 f2 rs2 c2 vy hy => ?_⟩
        have p2 := c2 F2 f2
        cases q2 : readO s2 i g with
        | bad => rw [q2] at p2; exact p2.elim
        | ex c x s' => unfold readO at q2; split at q2 <;> (try split at q2) <;> cases q2
        | ok x s3 =>
          rw [q2] at p2
          obtain ⟨rfl, a', dx', c', fs', v', k1, k2, k3, k4, k5, bx⟩ := rs2.fslot q2
          rw [e1] at k1
          cases k1
          have hh := f2.hn hbn a _ e2
          have := ins_inj hh k2
          subst this
          rw [e5] at k5
          cases k5
          exact fin x y s3 F2 H2 own2 v vy _ rs2 bx hy (fun a q => f2.dm a q) p2
    simp only [if_true, R.bind_assoc, R.bind_ok] at p ⊢
    show ∃ v, σ[i]? = some (some v) ∧ tRd E cx W b σ H fun y H2 => G v y H2 Q
    have p' : Post E.w cx W nz σ F H own ((readS s i).bind fun _ s => (rd b (evE E.gl E.call b) s).bind fun y s => (readS s i).bind fun x s => f (x, y) s) K := p
    cases q : readS s i with
    | bad => rw [q] at p'; exact p'.elim
    | ex c x s' => unfold readS at q; split at q <;> cases q
    | ok r s' =>
      rw [q] at p'
      obtain ⟨rfl, v, e1, _⟩ := rs.slot q
      refine ⟨v, e1, s', F, own, rs, Post.bnd (nz := nz) (f := fun y s => (readS s i).bind fun x s => f (x, y) s) (n2 := true) (fun z => ⟨(hnz z).2, rfl⟩) p' fun y s2 F2 H2 own2 f2 rs2 c2 vy hy => ?_⟩
      have p2 := c2 F2 f2
      cases q2 : readS s2 i with
      | bad => rw [q2] at p2; exact p2.elim
      | ex c x s' => unfold readS at q2; split at q2 <;> cases q2
      | ok x s3 =>
        rw [q2] at p2
        obtain ⟨rfl, v', e2, bx⟩ := rs2.slot q2
        rw [e1] at e2
        cases e2
        exact fin x y s3 F2 H2 own2 v vy _ rs2 bx hy (fun a q => f2.dm a q) p2
theorem bin_ok {o : Bop} {a b : Ex} (hf : noFld a = true) (h : tE E cx W (.bin o a b) σ H Q) : tOp (rBin E.w o) (tLate E cx W a b) (tRd E cx W b) σ H Q := by
  refine two_op (nz := (Ex.bin o a b).noio) hf (fun z => by simpa [Ex.noio] using z) (fun x y s2 F2 H2 own2 vx vy n rs2 bx by' dm p => ?_) h
  obtain ⟨r, fr, e, q⟩ := fin_op p rs2 dm
  exact ⟨F2, x, y, r, fr, rs2.fh, bx, by', e, q⟩
theorem cmp_ok {o : Cop} {a b : Ex} (hf : noFld a = true) (h : tE E cx W (.cmp o a b) σ H Q) : tOp (rCmp E.w o) (tLate E cx W a b) (tRd E cx W b) σ H Q := by
  refine two_op (nz := (Ex.cmp o a b).noio) hf (fun z => by simpa [Ex.noio] using z) (fun x y s2 F2 H2 own2 vx vy n rs2 bx by' dm p => ?_) h
  obtain ⟨r, e, q⟩ := fin_opB (g := id) p rs2 dm
  exact ⟨F2, x, y, r, rs2.fh, bx, by', e, q⟩
theorem ix_ok {a b : Ex} (hf : noFld a = true) (h : tE E cx W (.ix a b) σ H Q) : tOp (rIxD E.w) (tLate E cx W a b) (tRd E cx W b) σ H Q := by
  refine two_op (nz := (Ex.ix a b).noio) hf (fun z => by simpa [Ex.noio] using z) (fun x y s2 F2 H2 own2 vx vy n rs2 bx by' dm p => ?_) h
  obtain ⟨r, e, q⟩ := fin_op1 p rs2 dm
  exact ⟨F2, x, y, r, rs2.fh, bx, by', e, q⟩
/-- a test of a value that is a bool -/
theorem tT_bl {il : Ex} (hp : isPl il = false) (hb : ∀ s p s', evE E.gl E.call il s = .ok p s' → ∃ b, p = (.bl b, false)) {Q : Bool → Hp → Prop} (h : tT E cx W il σ H Q) : tE E cx W il σ H fun x H' => ∃ k, x = .bl k ∧ Q k H' := by
  obtain ⟨s, F, own, rs, p⟩ := h
  refine ⟨s, F, own, rs, ?_⟩
  unfold evT at p
  rw [rd_np hp, R.bind_assoc] at p
  cases q : evE E.gl E.call il s with
  | bad => rw [q] at p; exact p
  | ex c x s' => rw [q] at p; exact p
  | ok r s' =>
    rw [q] at p
    obtain ⟨b, rfl⟩ := hb _ _ _ q
    intro F' H' own' f' rs' v hv
    rw [hv.bor.bl]
    exact ⟨b, rfl, p F' H' own' f' rs'⟩
theorem of_ok {α : Type} {o : Option α} {s s' : Sg} {a : α} (h : R.of o s = .ok a s') : o = some a ∧ s' = s := by
  cases o <;> cases h
  exact ⟨rfl, rfl⟩
theorem bind_ok' {α β : Type} {r : R α} {f : α → Sg → R β} {b : β} {s' : Sg} (h : r.bind f = .ok b s') : ∃ a s1, r = .ok a s1 ∧ f a s1 = .ok b s' := by
  cases r with
  | ok a s1 => exact ⟨a, s1, rfl, h⟩
  | ex c x s => cases h
  | bad => cases h
theorem ofB {o : Option Bool} {g : Bool → Bool} {s s' : Sg} {p : D × Bool} (h : R.of (o.map fun b => (D.bl (g b), false)) s = .ok p s') : ∃ b, p = (.bl b, false) := by
  obtain ⟨e, _⟩ := of_ok h
  rw [Option.map_eq_some_iff] at e
  obtain ⟨b, _, rfl⟩ := e
  exact ⟨_, rfl⟩
theorem cmp_bl {o : Cop} {a b : Ex} (s : Sg) (p : D × Bool) (s' : Sg) (h : evE E.gl E.call (.cmp o a b) s = .ok p s') : ∃ b, p = (.bl b, false) := by
  obtain ⟨x, s1, _, h⟩ := bind_ok' h
  exact ofB (g := id) h
/-- a op b op c -/
theorem chn_ok {o q : Cop} {a b c : Ex} (h : tE E cx W (.chn o q a b c) σ H Q) : tChain (rCmp E.w o) (rCmp E.w q) (tE E cx W a) (tE E cx W b) (tRd E cx W c) σ H Q := by
  obtain ⟨s, F, own, rs, p⟩ := h
  have p' : Post E.w cx W (a.noio && b.noio && c.noio) σ F H own ((evE E.gl E.call a s).bind fun x s => (evE E.gl E.call b s).bind fun y s => (R.of (cmpD o x.1 y.1) s).bind fun k s =>
      if k then (rd c (evE E.gl E.call c) s).bind fun z s => R.of ((cmpD q y.1 z).map fun b => (.bl b, false)) s else .ok (.bl false, false) s) (KVal E H Q) := p
  refine ⟨s, F, own, rs, p'.bnd (n2 := b.noio && c.noio) (fun z => by simp only [Bool.and_eq_true] at z ⊢; exact ⟨z.1.1, z.1.2, z.2⟩) fun x s1 F1 H1 own1 f1 rs1 k1 vx hx => ?_⟩
  refine ⟨s1, F1, own1, rs1, (k1 F1 f1).bnd (n2 := c.noio) and_nz fun y s2 F2 H2 own2 f2 rs2 k2 vy hy => ?_⟩
  obtain ⟨k, e, p2⟩ : ∃ k, cmpD o x.1 y.1 = some k ∧ Post E.w cx W c.noio σ F2 H2 own2 (if k then (rd c (evE E.gl E.call c) s2).bind fun z s => R.of ((cmpD q y.1 z).map fun b => (.bl b, false)) s else .ok (.bl false, false) s2) (KVal E H Q) := by
    have p2 := k2 F2 f2
    cases hc : cmpD o x.1 y.1 with
    | none => rw [hc] at p2; exact p2.elim
    | some k => rw [hc] at p2; exact ⟨k, rfl, p2⟩
  refine ⟨F2, x.1, y.1, k, rs2.fh, hx.bor2 f2, hy.bor, e, k, rfl, ?_⟩
  cases k with
  | false => exact p2.fin .refl rs2 _ (.inl ⟨rfl, .bl false⟩)
  | true =>
    have p2 : Post E.w cx W c.noio σ F2 H2 own2 ((rd c (evE E.gl E.call c) s2).bind fun z s => R.of ((cmpD q y.1 z).map fun b => (.bl b, false)) s) (KVal E H Q) := p2
    refine ⟨s2, F2, own2, rs2, p2.bnd (n2 := true) (fun z => ⟨z, rfl⟩) fun z s3 F3 H3 own3 f3 rs3 k3 vz hz => ?_⟩
    obtain ⟨b', e', q'⟩ := fin_opB (g := id) (k3 F3 f3) rs3 (fun a z => f1.dm a (f2.dm a (f3.dm a z)))
    exact ⟨F3, y.1, z, b', rs3.fh, hy.bor2 f3, hz, e', q'⟩
theorem chn_bl {o q : Cop} {a b c : Ex} (s : Sg) (p : D × Bool) (s' : Sg) (h : evE E.gl E.call (.chn o q a b c) s = .ok p s') : ∃ b, p = (.bl b, false) := by
  obtain ⟨x, s1, _, h⟩ := bind_ok' h
  obtain ⟨y, s2, _, h⟩ := bind_ok' h
  obtain ⟨k, s3, _, h⟩ := bind_ok' h
  cases k with
  | false => cases h; exact ⟨_, rfl⟩
  | true =>
    obtain ⟨z, s4, _, h⟩ := bind_ok' (r := rd c (evE E.gl E.call c) s3) h
    exact ofB (g := id) h
/-- a op b op c op d -/
def tChain3 (r r' r2 : R2) (ta tb tc td : TE) : TE := fun σ H Q => ta σ H fun x H1 => tb σ H1 fun y H2 => r x y H2 fun z H3 => ∃ k, z = .bl k ∧
  (if k = true then tc σ H3 fun w' H4 => r' y w' H4 fun z2 H5 => ∃ k2, z2 = .bl k2 ∧ (if k2 = true then td σ H5 fun v' H6 => r2 w' v' H6 Q else Q (.bl false) H5) else Q (.bl false) H3)
section
variable {X : Cx} {a b c d : Expr} {ta tb tc td : TE} {pos : Pos}
theorem pe_chain3 {op op' op2 : CmpOp} {r r' r2 : R2} (ho : OpR X (compareOp op) r) (ho' : OpR X (compareOp op') r') (ho2 : OpR X (compareOp op2) r2) (ha : PE X a ta) (hb : PE X b tb) (hc : PE X c tc) (hd : PE X d td)
    (hm : lastMarks [op, op', op2] [b, c, d] = false) : PE X (.Compare a [op, op', op2] [b, c, d] pos) (tChain3 r r' r2 ta tb tc td) := by
  refine ⟨fun pins s σ H Q I h => ?_⟩
  refine Compare_chain (thn (ha.run pins s σ H _ I h) fun v s1 ⟨x, H1, I1, r1, q1⟩ => chain_link (thn (hb.run pins s1 σ H1 _ I1 q1) fun u s2 ⟨y, H2, I2, r2, q2⟩ =>
    thn (ho pins s2 σ H2 x y v u _ I2 r1 r2 q2) fun d s3 ⟨z, H3, I3, r3, k, e, q3⟩ => ?_)) hm
  subst e
  cases r3
  refine wpAny_truthy_bool ?_
  cases k with
  | false => exact ite_ff ⟨.bl false, H3, I3, rfl, q3⟩
  | true =>
    refine ite_tt (chain_link (thn (hc.run pins s3 σ H3 _ I3 q3) fun w' s4 ⟨z', H4, I4, r4, q4⟩ => thn (ho' pins s4 σ H4 y z' u w' _ I4 r2 r4 q4) fun d' s5 ⟨z2, H5, I5, r5, k2, e2, q5⟩ => ?_))
    subst e2
    cases r5
    refine wpAny_truthy_bool ?_
    cases k2 with
    | false => exact ite_ff ⟨.bl false, H5, I5, rfl, q5⟩
    | true => exact ite_tt (chain_last (thn (hd.run pins s5 σ H5 _ I5 q5) fun v' s6 ⟨z3, H6, I6, r6, q6⟩ => ho2 pins s6 σ H6 z' z3 w' v' Q I6 r4 r6 q6))
theorem pt_chain3 {op op' op2 : CmpOp} {r r' r2 : R2} (ho : OpR X (compareOp op) r) (ho' : OpR X (compareOp op') r') (ho2 : OpR X (compareOp op2) r2) (ha : PE X a ta) (hb : PE X b tb) (hc : PE X c tc) (hd : PE X d td)
    (hm : lastMarks [op, op', op2] [b, c, d] = false) : PT X (.Compare a [op, op', op2] [b, c, d] pos) (tTest (tChain3 r r' r2 ta tb tc td)) := by
  refine ⟨fun pins s σ H Q I h => ?_⟩
  refine isTrue_chain (thn (ha.run pins s σ H _ I h) fun v s1 ⟨x, H1, I1, r1, q1⟩ => test_link (thn (hb.run pins s1 σ H1 _ I1 q1) fun u s2 ⟨y, H2, I2, r2, q2⟩ =>
    thn (ho pins s2 σ H2 x y v u _ I2 r1 r2 q2) fun d s3 ⟨z, H3, I3, r3, k, e, q3⟩ => ?_)) hm
  subst e
  cases r3
  refine wpAny_truthy_bool ?_
  cases k with
  | false =>
    obtain ⟨k', e', q'⟩ := q3
    cases e'
    exact ite_ff ⟨H3, I3, q'⟩
  | true =>
    refine ite_tt (test_link (thn (hc.run pins s3 σ H3 _ I3 q3) fun w' s4 ⟨z', H4, I4, r4, q4⟩ => thn (ho' pins s4 σ H4 y z' u w' _ I4 r2 r4 q4) fun d' s5 ⟨z2, H5, I5, r5, k2, e2, q5⟩ => ?_))
    subst e2
    cases r5
    refine wpAny_truthy_bool ?_
    cases k2 with
    | false =>
      obtain ⟨k', e', q'⟩ := q5
      cases e'
      exact ite_ff ⟨H5, I5, q'⟩
    | true =>
      refine ite_tt (test_last (thn (hd.run pins s5 σ H5 _ I5 q5) fun v' s6 ⟨z3, H6, I6, r6, q6⟩ => thn (ho2 pins s6 σ H6 z' z3 w' v' _ I6 r4 r6 q6) fun d3 s7 ⟨z4, H7, I7, r7, k3, e3, q7⟩ => ?_))
      subst e3
      cases r7
      exact wpAny_truthy_bool ⟨H7, I7, q7⟩
end
theorem chn3_ok {o q q2 : Cop} {a b c d : Ex} (h : tE E cx W (.chn3 o q q2 a b c d) σ H Q) : tChain3 (rCmp E.w o) (rCmp E.w q) (rCmp E.w q2) (tE E cx W a) (tE E cx W b) (tE E cx W c) (tRd E cx W d) σ H Q := by
  obtain ⟨s, F, own, rs, p⟩ := h
  have p' : Post E.w cx W (a.noio && b.noio && c.noio && d.noio) σ F H own ((evE E.gl E.call a s).bind fun x s => (evE E.gl E.call b s).bind fun y s => (R.of (cmpD o x.1 y.1) s).bind fun k s =>
      if k then (evE E.gl E.call c s).bind fun z s => (R.of (cmpD q y.1 z.1) s).bind fun k s => if k then (rd d (evE E.gl E.call d) s).bind fun w s => R.of ((cmpD q2 z.1 w).map fun b => (.bl b, false)) s else .ok (.bl false, false) s else .ok (.bl false, false) s) (KVal E H Q) := p
  refine ⟨s, F, own, rs, p'.bnd (n2 := b.noio && c.noio && d.noio) (fun z => by simp only [Bool.and_eq_true] at z ⊢; exact ⟨z.1.1.1, ⟨z.1.1.2, z.1.2⟩, z.2⟩) fun x s1 F1 H1 own1 f1 rs1 k1 vx hx => ?_⟩
  refine ⟨s1, F1, own1, rs1, (k1 F1 f1).bnd (n2 := c.noio && d.noio) (fun z => by simp only [Bool.and_eq_true] at z ⊢; exact ⟨z.1.1, z.1.2, z.2⟩) fun y s2 F2 H2 own2 f2 rs2 k2 vy hy => ?_⟩
  obtain ⟨k, e, p2⟩ : ∃ k, cmpD o x.1 y.1 = some k ∧ Post E.w cx W (c.noio && d.noio) σ F2 H2 own2 (if k then (evE E.gl E.call c s2).bind fun z s => (R.of (cmpD q y.1 z.1) s).bind fun k s => if k then (rd d (evE E.gl E.call d) s).bind fun w s => R.of ((cmpD q2 z.1 w).map fun b => (.bl b, false)) s else .ok (.bl false, false) s else .ok (.bl false, false) s2) (KVal E H Q) := by
    have p2 := k2 F2 f2
    cases hc : cmpD o x.1 y.1 with
    | none => rw [hc] at p2; exact p2.elim
    | some k => rw [hc] at p2; exact ⟨k, rfl, p2⟩
  refine ⟨F2, x.1, y.1, k, rs2.fh, hx.bor2 f2, hy.bor, e, k, rfl, ?_⟩
  cases k with
  | false => exact p2.fin .refl rs2 _ (.inl ⟨rfl, .bl false⟩)
  | true =>
    have p2 : Post E.w cx W (c.noio && d.noio) σ F2 H2 own2 ((evE E.gl E.call c s2).bind fun z s => (R.of (cmpD q y.1 z.1) s).bind fun k s => if k then (rd d (evE E.gl E.call d) s).bind fun w s => R.of ((cmpD q2 z.1 w).map fun b => (.bl b, false)) s else .ok (.bl false, false) s) (KVal E H Q) := p2
    refine ⟨s2, F2, own2, rs2, p2.bnd (n2 := d.noio) and_nz fun z s3 F3 H3 own3 f3 rs3 k3 vz hz => ?_⟩
    obtain ⟨k', e', p3⟩ : ∃ k, cmpD q y.1 z.1 = some k ∧ Post E.w cx W d.noio σ F3 H3 own3 (if k then (rd d (evE E.gl E.call d) s3).bind fun w s => R.of ((cmpD q2 z.1 w).map fun b => (.bl b, false)) s else .ok (.bl false, false) s3) (KVal E H Q) := by
      have p3 := k3 F3 f3
      cases hc : cmpD q y.1 z.1 with
      | none => rw [hc] at p3; exact p3.elim
      | some k => rw [hc] at p3; exact ⟨k, rfl, p3⟩
    refine ⟨F3, y.1, z.1, k', rs3.fh, hy.bor2 f3, hz.bor, e', k', rfl, ?_⟩
    cases k' with
    | false => exact p3.fin .refl rs3 _ (.inl ⟨rfl, .bl false⟩)
    | true =>
      have p3 : Post E.w cx W d.noio σ F3 H3 own3 ((rd d (evE E.gl E.call d) s3).bind fun w s => R.of ((cmpD q2 z.1 w).map fun b => (.bl b, false)) s) (KVal E H Q) := p3
      refine ⟨s3, F3, own3, rs3, p3.bnd (n2 := true) (fun z => ⟨z, rfl⟩) fun w s4 F4 H4 own4 f4 rs4 k4 vw hw => ?_⟩
      obtain ⟨b', e2', q'⟩ := fin_opB (g := id) (k4 F4 f4) rs4 (fun a z => f1.dm a (f2.dm a (f3.dm a (f4.dm a z))))
      exact ⟨F4, z.1, w, b', rs4.fh, hz.bor2 f4, hw, e2', q'⟩
theorem chn3_bl {o q q2 : Cop} {a b c d : Ex} (s : Sg) (p : D × Bool) (s' : Sg) (h : evE E.gl E.call (.chn3 o q q2 a b c d) s = .ok p s') : ∃ b, p = (.bl b, false) := by
  obtain ⟨x, s1, _, h⟩ := bind_ok' h
  obtain ⟨y, s2, _, h⟩ := bind_ok' h
  obtain ⟨k, s3, _, h⟩ := bind_ok' h
  cases k with
  | false => cases h; exact ⟨_, rfl⟩
  | true =>
    obtain ⟨z, s4, _, h⟩ := bind_ok' (r := evE E.gl E.call c s3) h
    obtain ⟨k, s5, _, h⟩ := bind_ok' h
    cases k with
    | false => cases h; exact ⟨_, rfl⟩
    | true =>
      obtain ⟨w, s6, _, h⟩ := bind_ok' (r := rd d (evE E.gl E.call d) s5) h
      exact ofB (g := id) h
/-- one operand, looked at -/
theorem one_op {a : Ex} {f : D → Sg → R (D × Bool)} {K : D × Bool → Sg → Hp → Hp → (Nat → List Addr) → Prop} {nz : Bool} {G : V → Hp → Prop} (hnz : nz = true → a.noio = true)
    (fin : ∀ x s1 F1 H1 own1 vx n, RS E.w cx s1 F1 σ H1 own1 → Bor E.w F1 H1 vx x → (∀ a, H1 a = none → H a = none) → Post E.w cx W n σ F1 H1 own1 (f x s1) K → G vx H1)
    (h : ∃ s F own, RS E.w cx s F σ H own ∧ Post E.w cx W nz σ F H own ((rd a (evE E.gl E.call a) s).bind f) K) : tRd E cx W a σ H G := by
  obtain ⟨s, F, own, rs, p⟩ := h
  exact ⟨s, F, own, rs, p.bnd (n2 := true) (fun z => ⟨hnz z, rfl⟩) fun x s1 F1 H1 own1 f1 rs1 k1 vx hx => fin x s1 F1 H1 own1 vx _ rs1 hx f1.dm (k1 F1 f1)⟩
theorem neg_ok {a : Ex} (h : tE E cx W (.neg a) σ H Q) : tUn (rU fun i => .int (-i)) (tRd E cx W a) σ H Q := by
  refine one_op (nz := (Ex.neg a).noio) (fun z => z) (fun x s1 F1 H1 own1 vx n rs1 hx dm p => ?_) h
  obtain ⟨r, e, q⟩ := fin_op1 p rs1 dm
  cases x <;> simp [negD] at e
  subst e
  exact ⟨_, hx.int, q.data rs1.fh (.int _)⟩
theorem isN_ok {n : Bool} {a : Ex} (h : tE E cx W (.isl n a .non) σ H Q) : tRd E cx W a σ H fun x H1 => Q (.bl (decide (x = .non) != n)) H1 := by
  refine one_op (nz := (Ex.isl n a .non).noio) (fun z => z) (fun x s1 F1 H1 own1 vx m rs1 hx dm p => ?_) h
  obtain ⟨b, e, q⟩ := fin_opB (g := fun b => b != n) p rs1 dm
  rw [bor_isN hx]
  have : b = isNonD x := by cases x <;> simp [islD] at e <;> (subst e; rfl)
  rw [← this]; exact q
theorem isB_ok {n b : Bool} {a : Ex} (h : tE E cx W (.isl n a (.bl b)) σ H Q) : tRd E cx W a σ H fun x H1 => ∃ c, x = .bl c ∧ Q (.bl (decide (c = b) != n)) H1 := by
  refine one_op (nz := (Ex.isl n a (.bl b)).noio) (fun z => z) (fun x s1 F1 H1 own1 vx m rs1 hx dm p => ?_) h
  obtain ⟨k, e, q⟩ := fin_opB (g := fun b => b != n) p rs1 dm
  cases x <;> simp [islD] at e
  rename_i c
  refine ⟨c, hx.bl, ?_⟩
  have : decide (c = b) = k := by rw [← e]; cases c <;> cases b <;> rfl
  rw [this]; exact q
theorem isl_bl {n : Bool} {a : Ex} {l : Lit} (s : Sg) (p : D × Bool) (s' : Sg) (h : evE E.gl E.call (.isl n a l) s = .ok p s') : ∃ b, p = (.bl b, false) := by
  obtain ⟨x, s1, _, h⟩ := bind_ok' h
  exact ofB (g := fun b => b != n) h
theorem not_ok {X : Cx} (hw : E.w.K = X.K) {a : Ex} (h : tE E cx W (.not a) σ H Q) : tNotG X.K (tRd E cx W a) σ H Q := by
  refine one_op (nz := (Ex.not a).noio) (fun z => z) (fun x s1 F1 H1 own1 vx m rs1 hx dm p => ?_) h
  obtain ⟨b, e, q⟩ := fin_opB (g := fun b => !b) p rs1 dm
  exact ⟨b, bor_tru hw rs1.fh hx e, q⟩
theorem and_ok {X : Cx} (hw : E.w.K = X.K) {a b : Ex} (h : tE E cx W (.and a b) σ H Q) : tAndG X.K (tE E cx W a) (tE E cx W b) σ H Q := by
  obtain ⟨s, F, own, rs, p⟩ := h
  have p' : Post E.w cx W (a.noio && b.noio) σ F H own ((evE E.gl E.call a s).bind fun x s => (R.of (truth x.1) s).bind fun k s => if k then evE E.gl E.call b s else .ok (x.1, false) s) (KVal E H Q) := p
  refine ⟨s, F, own, rs, p'.bnd (n2 := b.noio) and_nz fun x s1 F1 H1 own1 f1 rs1 k1 vx hx => ?_⟩
  cases hc : truth x.1 with
  | none => have := k1 F1 f1; rw [hc] at this; exact this.elim
  | some k =>
    refine ⟨k, bor_tru hw rs1.fh hx.bor hc, ?_⟩
    cases k with
    | true =>
      have p2 := k1 F1 f1
      rw [hc] at p2
      exact ⟨s1, F1, own1, rs1, p2.mono fun p s2 F2 H2 own2 k v hv => k v (hv.dm f1.dm)⟩
    | false =>
      obtain ⟨F2, sf, f2, rs2, hr⟩ := hx.frz f1 rs1
      have p2 := k1 F2 f2
      rw [hc] at p2
      exact p2.fin .refl rs2 _ (.inl ⟨rfl, hr⟩)
theorem or_ok {X : Cx} (hw : E.w.K = X.K) {a b : Ex} (h : tE E cx W (.or a b) σ H Q) : tOrG X.K (tE E cx W a) (tE E cx W b) σ H Q := by
  obtain ⟨s, F, own, rs, p⟩ := h
  have p' : Post E.w cx W (a.noio && b.noio) σ F H own ((evE E.gl E.call a s).bind fun x s => (R.of (truth x.1) s).bind fun k s => if k then .ok (x.1, false) s else evE E.gl E.call b s) (KVal E H Q) := p
  refine ⟨s, F, own, rs, p'.bnd (n2 := b.noio) and_nz fun x s1 F1 H1 own1 f1 rs1 k1 vx hx => ?_⟩
  cases hc : truth x.1 with
  | none => have := k1 F1 f1; rw [hc] at this; exact this.elim
  | some k =>
    refine ⟨k, bor_tru hw rs1.fh hx.bor hc, ?_⟩
    cases k with
    | false =>
      have p2 := k1 F1 f1
      rw [hc] at p2
      exact ⟨s1, F1, own1, rs1, p2.mono fun p s2 F2 H2 own2 k v hv => k v (hv.dm f1.dm)⟩
    | true =>
      obtain ⟨F2, sf, f2, rs2, hr⟩ := hx.frz f1 rs1
      have p2 := k1 F2 f2
      rw [hc] at p2
      exact p2.fin .refl rs2 _ (.inl ⟨rfl, hr⟩)
/-- .. as tests -/
theorem andT_ok {a b : Ex} {Q : Bool → Hp → Prop} (h : tT E cx W (.and a b) σ H Q) : tAnd (tTf E cx W a) (tTf E cx W b) σ H Q := by
  obtain ⟨s, F, own, rs, p⟩ := h
  have p' : Post E.w cx W (a.noio && b.noio) σ F H own (((evE E.gl E.call a s).bind fun x s => R.of (truth x.1) s).bind fun k s => if k then (evE E.gl E.call b s).bind fun x s => R.of (truth x.1) s else .ok false s) (KTr Q) := by
    have e : evT E.gl E.call (.and a b) s = ((evE E.gl E.call a s).bind fun x s => R.of (truth x.1) s).bind fun k s => if k then (evE E.gl E.call b s).bind fun x s => R.of (truth x.1) s else .ok false s := by
      unfold evT
      rw [rd_np rfl, R.bind_assoc]
      show ((evE E.gl E.call a s).bind fun x s => (R.of (truth x.1) s).bind fun k s => if k then evE E.gl E.call b s else .ok (x.1, false) s).bind _ = _
      rw [R.bind_assoc, R.bind_assoc]
      congr 1
      funext x s1
      cases hc : truth x.1 with
      | none => rfl
      | some k =>
        cases k with
        | true => rfl
        | false => show R.of (truth x.1) s1 = _; rw [hc]; rfl
    rw [← e]; exact p
  refine ⟨s, F, own, rs, p'.bnd (n2 := b.noio) and_nz fun k s1 F1 H1 own1 f1 rs1 k1 => ?_⟩
  have p2 := k1 F1 f1
  cases k with
  | true => exact ⟨s1, F1, own1, rs1, p2⟩
  | false => exact p2.fin .refl rs1
theorem orT_ok {a b : Ex} {Q : Bool → Hp → Prop} (h : tT E cx W (.or a b) σ H Q) : tOr (tTf E cx W a) (tTf E cx W b) σ H Q := by
  obtain ⟨s, F, own, rs, p⟩ := h
  have p' : Post E.w cx W (a.noio && b.noio) σ F H own (((evE E.gl E.call a s).bind fun x s => R.of (truth x.1) s).bind fun k s => if k then .ok true s else (evE E.gl E.call b s).bind fun x s => R.of (truth x.1) s) (KTr Q) := by
    have e : evT E.gl E.call (.or a b) s = ((evE E.gl E.call a s).bind fun x s => R.of (truth x.1) s).bind fun k s => if k then .ok true s else (evE E.gl E.call b s).bind fun x s => R.of (truth x.1) s := by
      unfold evT
      rw [rd_np rfl, R.bind_assoc]
      show ((evE E.gl E.call a s).bind fun x s => (R.of (truth x.1) s).bind fun k s => if k then .ok (x.1, false) s else evE E.gl E.call b s).bind _ = _
      rw [R.bind_assoc, R.bind_assoc]
      congr 1
      funext x s1
      cases hc : truth x.1 with
      | none => rfl
      | some k =>
        cases k with
        | false => rfl
        | true => show R.of (truth x.1) s1 = _; rw [hc]; rfl
    rw [← e]; exact p
  refine ⟨s, F, own, rs, p'.bnd (n2 := b.noio) and_nz fun k s1 F1 H1 own1 f1 rs1 k1 => ?_⟩
  have p2 := k1 F1 f1
  cases k with
  | false => exact ⟨s1, F1, own1, rs1, p2⟩
  | true => exact p2.fin .refl rs1
theorem notT_ok {a : Ex} {Q : Bool → Hp → Prop} (h : tT E cx W (.not a) σ H Q) : tNot (tT E cx W a) σ H Q := by
  obtain ⟨s, F, own, rs, p⟩ := h
  have e : evT E.gl E.call (.not a) s = (evT E.gl E.call a s).bind fun k s => .ok (!k) s := by
    unfold evT
    rw [rd_np rfl, R.bind_assoc, R.bind_assoc]
    show ((rd a (evE E.gl E.call a) s).bind fun x s => R.of ((truth x).map fun b => (D.bl (!b), false)) s).bind _ = _
    rw [R.bind_assoc]
    congr 1
    funext x s1
    cases truth x <;> rfl
  rw [e] at p
  refine ⟨s, F, own, rs, p.bnd (n1 := a.noio) (n2 := true) (fun z => ⟨z, rfl⟩) fun k s1 F1 H1 own1 f1 rs1 k1 => ?_⟩
  exact (k1 F1 f1).fin .refl rs1
theorem ite_ok {c a b : Ex} (h : tE E cx W (.ite c a b) σ H Q) : tIf (tT E cx W c) (tE E cx W a) (tE E cx W b) σ H Q := by
  obtain ⟨s, F, own, rs, p⟩ := h
  have p' : Post E.w cx W (c.noio && a.noio && b.noio) σ F H own ((evT E.gl E.call c s).bind fun k s => if k then evE E.gl E.call a s else evE E.gl E.call b s) (KVal E H Q) := by
    unfold evT
    rw [R.bind_assoc]
    exact p
  refine ⟨s, F, own, rs, p'.bnd (n2 := a.noio && b.noio) (fun z => by simp only [Bool.and_eq_true] at z ⊢; exact ⟨z.1.1, z.1.2, z.2⟩) fun k s1 F1 H1 own1 f1 rs1 k1 => ?_⟩
  have p2 := k1 F1 f1
  cases k with
  | true => exact ⟨s1, F1, own1, rs1, (p2.weak fun z => by simp only [Bool.and_eq_true] at z; exact z.1).mono fun p s2 F2 H2 own2 k v hv => k v (hv.dm f1.dm)⟩
  | false => exact ⟨s1, F1, own1, rs1, (p2.weak fun z => by simp only [Bool.and_eq_true] at z; exact z.2).mono fun p s2 F2 H2 own2 k v hv => k v (hv.dm f1.dm)⟩
theorem iteT_ok {c a b : Ex} {Q : Bool → Hp → Prop} (h : tT E cx W (.ite c a b) σ H Q) : tT E cx W c σ H fun k H1 => if k = true then tTf E cx W a σ H1 Q else tTf E cx W b σ H1 Q := by
  obtain ⟨s, F, own, rs, p⟩ := h
  have p' : Post E.w cx W (c.noio && a.noio && b.noio) σ F H own ((evT E.gl E.call c s).bind fun k s => if k then (evE E.gl E.call a s).bind fun x s => R.of (truth x.1) s else (evE E.gl E.call b s).bind fun x s => R.of (truth x.1) s) (KTr Q) := by
    have e : evT E.gl E.call (.ite c a b) s = (evT E.gl E.call c s).bind fun k s => if k then (evE E.gl E.call a s).bind fun x s => R.of (truth x.1) s else (evE E.gl E.call b s).bind fun x s => R.of (truth x.1) s := by
      unfold evT
      rw [rd_np rfl, R.bind_assoc, R.bind_assoc]
      show ((rd c (evE E.gl E.call c) s).bind fun x s => (R.of (truth x) s).bind fun k s => if k then evE E.gl E.call a s else evE E.gl E.call b s).bind _ = _
      rw [R.bind_assoc]
      congr 1
      funext x s1
      cases truth x with
      | none => rfl
      | some k => cases k <;> rfl
    rw [← e]; exact p
  refine ⟨s, F, own, rs, p'.bnd (n2 := a.noio && b.noio) (fun z => by simp only [Bool.and_eq_true] at z ⊢; exact ⟨z.1.1, z.1.2, z.2⟩) fun k s1 F1 H1 own1 f1 rs1 k1 => ?_⟩
  have p2 := k1 F1 f1
  cases k with
  | true => exact ⟨s1, F1, own1, rs1, p2.weak fun z => by simp only [Bool.and_eq_true] at z; exact z.1⟩
  | false => exact ⟨s1, F1, own1, rs1, p2.weak fun z => by simp only [Bool.and_eq_true] at z; exact z.2⟩
/-- arguments -/
theorem xs_nil {Q : List V → Hp → Prop} (h : tXs E cx W .nil σ H Q) : tNil σ H Q := by
  obtain ⟨s, F, own, rs, p⟩ := h
  exact Post.fin (a := []) p .refl rs [] .nil
theorem xs_cons {e : Ex} {r : Exs} {Q : List V → Hp → Prop} (h : tXs E cx W (.cons false e r) σ H Q) : tCons (tE E cx W e) (tXs E cx W r) σ H Q := by
  obtain ⟨s, F, own, rs, p⟩ := h
  have p' : Post E.w cx W (e.noio && r.noio) σ F H own ((evE E.gl E.call e s).bind fun x s => (evXs E.gl E.call r s).bind fun ds s => .ok (x.1 :: ds) s) (KXs E Q) := p
  refine ⟨s, F, own, rs, p'.bnd (n2 := r.noio) and_nz fun x s1 F1 H1 own1 f1 rs1 k1 vx hx => ?_⟩
  obtain ⟨F2, sf, f2, rs2, hr⟩ := hx.frz f1 rs1
  refine ⟨s1, F2, own1, rs2, (k1 F2 f2).bnd (n2 := true) (fun z => ⟨z, rfl⟩) fun ds s3 F3 H3 own3 f3 rs3 k3 vs hvs => ?_⟩
  exact (k3 F3 f3).fin .refl rs3 _ (.cons (hr.mono f3.ff) hvs)
theorem xs_star {e : Ex} {r : Exs} {Q : List V → Hp → Prop} {X : Cx} (hw : E.w.K = X.K) (h : tXs E cx W (.cons true e r) σ H Q) : StX.tStar X.K (tE E cx W e) (tXs E cx W r) σ H Q := by
  obtain ⟨s, F, own, rs, p⟩ := h
  have p' : Post E.w cx W (e.noio && r.noio) σ F H own ((evE E.gl E.call e s).bind fun x s => (R.of (seqD x.1) s).bind fun xs s => (evXs E.gl E.call r s).bind fun ds s => .ok (xs ++ ds) s) (KXs E Q) := p
  refine ⟨s, F, own, rs, p'.bnd (n2 := r.noio) and_nz fun x s1 F1 H1 own1 f1 rs1 k1 vx hx => ?_⟩
  obtain ⟨F2, sf, f2, rs2, hr⟩ := hx.frz f1 rs1
  have p2 := k1 F2 f2
  have fin : ∀ {xs : List D} {us : List V}, seqD x.1 = some xs → Reps E.w F2 us xs → tXs E cx W r σ H1 fun ys H2 => Q (us ++ ys) H2 := fun {xs us} e ru => by
    rw [e] at p2
    refine ⟨s1, F2, own1, rs2, Post.bnd (nz := r.noio) (r := evXs E.gl E.call r s1) (f := fun ds s => .ok (xs ++ ds) s) (n2 := true) (fun z => ⟨z, rfl⟩) p2 fun ds s3 F3 H3 own3 f3 rs3 k3 vs hvs => ?_⟩
    exact (k3 F3 f3).fin .refl rs3 _ ((ru.mono f3.ff).append hvs)
  cases hd : x.1 with
  | tup xs =>
    rw [hd] at hr
    obtain ⟨a, us, rfl, h1, r1, _⟩ := (Bor.tup (H := H1) rs2.fh (.inl hr))
    exact ⟨a, us, rfl, .inl (hw ▸ h1).sqT, fin (by rw [hd]; rfl) r1⟩
  | lst xs =>
    rw [hd] at hr
    obtain ⟨a, us, rfl, h1, r1, _⟩ := (Bor.lst (H := H1) rs2.fh (.inl hr))
    exact ⟨a, us, rfl, .inr (hw ▸ h1), fin (by rw [hd]; rfl) r1⟩
  | non => rw [hd] at p2; exact p2.elim
  | bl _ => rw [hd] at p2; exact p2.elim
  | int _ => rw [hd] at p2; exact p2.elim
  | str _ => rw [hd] at p2; exact p2.elim
  | obj _ _ => rw [hd] at p2; exact p2.elim
theorem disp_ok {xs : Exs} {g : List D → D} {fr : Bool} {n : Bool} {s : Sg} {F : Hp} {own : Nat → List Addr} {G : List V → Hp → Prop} (rs : RS E.w cx s F σ H own) (hn : n = true → xs.noio = true) (p : Post E.w cx W n σ F H own ((evXs E.gl E.call xs s).bind fun ds s => lenOk ds (g ds) fr s) (KVal E H Q))
    (fin : ∀ ds vs F1 H1, Sub F1 H1 → Reps E.w F1 vs ds → vs.length ≤ limN → Aft E.w F1 H1 (g ds) fr Q → G vs H1) : tXs E cx W xs σ H G := by
  refine ⟨s, F, own, rs, p.bnd (n2 := true) (fun z => ⟨hn z, rfl⟩) fun ds s1 F1 H1 own1 f1 rs1 k1 vs hvs => ?_⟩
  have p2 := k1 F1 f1
  unfold lenOk at p2
  split at p2
  · rename_i hl
    refine fin ds vs F1 H1 rs1.fh hvs (by rw [hvs.length]; exact hl) fun F' H' v ps nv => ?_
    exact p2.fin (.pst ps) (rs1.pst ps) v (nv.val rs1 f1.dm)
  · exact p2.elim
theorem tup_ok {xs : Exs} (h : tE E cx W (.tup xs) σ H Q) : tTupN (tXs E cx W xs) σ H Q := by
  obtain ⟨s, F, own, rs, p⟩ := h
  exact disp_ok (g := .tup) rs (fun z => z) p fun ds vs F1 H1 sf hvs hl q => ⟨Nat.le_trans hl limN_le, fun us p hp => q.tup sf hvs hl hp us⟩
theorem lst_ok {xs : Exs} (h : tE E cx W (.lst xs) σ H Q) : tLst (tXs E cx W xs) σ H Q := by
  obtain ⟨s, F, own, rs, p⟩ := h
  exact disp_ok (g := .lst) rs (fun z => z) p fun ds vs F1 H1 sf hvs hl q => ⟨Nat.le_trans hl limN_le, fun p hp => q.lst sf hvs hl hp⟩
/-- parts of a slice -/
theorem ox_no {Q : Option Int → Hp → Prop} (h : tOx E cx W .no σ H Q) : tNoPart σ H Q := by
  obtain ⟨s, F, own, rs, p⟩ := h
  exact Post.fin (a := none) p .refl rs
theorem ox_yes {e : Ex} {Q : Option Int → Hp → Prop} (h : tOx E cx W (.yes e) σ H Q) : tPart (tRd E cx W e) σ H Q := by
  obtain ⟨s, F, own, rs, p⟩ := h
  have p' : Post E.w cx W e.noio σ F H own ((rd e (evE E.gl E.call e) s).bind fun x s => (intR x s).bind fun i s => .ok (some i) s) (fun i _ _ H' _ => Q i H') := p
  refine ⟨s, F, own, rs, p'.bnd (n2 := true) (fun z => ⟨z, rfl⟩) fun x s1 F1 H1 own1 f1 rs1 k1 vx hx => ?_⟩
  have p2 := k1 F1 f1
  cases x with
  | int i => exact ⟨i, hx.int, p2.fin .refl rs1⟩
  | _ => exact p2.elim
def tLateO (E : En) (cx : Cxs) (W : WX) (a : Ex) (lo hi : Oex) : TE := if lateO a lo hi then (match a with | .loc i => tVar i | .fo i f => tFv E.w i f | _ => tE E cx W a) else tE E cx W a
theorem lateO_loc {a : Ex} {lo hi : Oex} (h : lateO a lo hi = true) (hf : noFld a = true) : (∃ i, a = .loc i) ∨ ∃ i f, a = .fo i f ∧ lo.noio = true ∧ hi.noio = true := by
  cases a <;> simp [lateO, noFld] at h hf
  · exact .inl ⟨_, rfl⟩
  · exact .inr ⟨_, _, rfl, h⟩
theorem sl_ok {a : Ex} {lo hi : Oex} (hf : noFld a = true) (h : tE E cx W (.sl a lo hi) σ H Q) : tSl (rSlD E.w) (tLateO E cx W a lo hi) (tOx E cx W lo) (tOx E cx W hi) σ H Q := by
  obtain ⟨s, F, own, rs, p⟩ := h
  have hnz : (a.noio && lo.noio && hi.noio) = true → a.noio = true ∧ lo.noio = true ∧ hi.noio = true := fun z => by simp only [Bool.and_eq_true] at z; exact ⟨z.1.1, z.1.2, z.2⟩
  have p' : Post E.w cx W (a.noio && lo.noio && hi.noio) σ F H own ((if lateO a lo hi then (rd a (evE E.gl E.call a) s).bind fun _ s => (evO E.gl E.call lo s).bind fun l s => (evO E.gl E.call hi s).bind fun h s => (rd a (evE E.gl E.call a) s).bind fun x s => .ok (x, l, h) s
      else (evE E.gl E.call a s).bind fun x s => (evO E.gl E.call lo s).bind fun l s => (evO E.gl E.call hi s).bind fun h s => .ok (x.1, l, h) s).bind fun p s => R.of (slD p.1 p.2.1 p.2.2) s) (KVal E H Q) := p
  have fin : ∀ {n : Bool} {s3 : Sg} {F3 H3 : Hp} {own3 : Nat → List Addr} {vx : V} {x : D} {l u : Option Int}, RS E.w cx s3 F3 σ H3 own3 → Bor E.w F3 H3 vx x → (∀ a, H3 a = none → H a = none) → Post E.w cx W n σ F3 H3 own3 (R.of (slD x l u) s3) (KVal E H Q) → rSlD E.w vx l u H3 Q := fun rs3 bx dm p3 => by
    obtain ⟨r, fr, e, q⟩ := fin_op p3 rs3 dm
    exact ⟨_, _, r, fr, rs3.fh, bx, e, q⟩
  unfold tSl tLateO
  cases hl : lateO a lo hi with
  | false =>
    rw [hl] at p'
    simp only [Bool.false_eq_true, if_false, R.bind_assoc, R.bind_ok] at p' ⊢
    refine ⟨s, F, own, rs, p'.bnd (n2 := lo.noio && hi.noio) (fun z => by obtain ⟨z1, z2, z3⟩ := hnz z; exact ⟨z1, by rw [z2, z3]; rfl⟩) fun x s1 F1 H1 own1 f1 rs1 k1 vx hx => ?_⟩
    refine ⟨s1, F1, own1, rs1, (k1 F1 f1).bnd (n2 := hi.noio) and_nz fun l s2 F2 H2 own2 f2 rs2 k2 => ?_⟩
    refine ⟨s2, F2, own2, rs2, (k2 F2 f2).bnd (n2 := true) (fun z => ⟨z, rfl⟩) fun u s3 F3 H3 own3 f3 rs3 k3 => ?_⟩
    exact fin rs3 (hx.bor2 (f2.trans f3)) (fun c z => f1.dm c (f2.dm c (f3.dm c z))) (k3 F3 f3)
  | true =>
    rw [hl] at p'
    rcases lateO_loc hl hf with ⟨i, rfl⟩ | ⟨i, g, rfl, hbl, hbh⟩
    rotate_left
    · simp only [if_true, R.bind_assoc, R.bind_ok] at p' ⊢
      show ∃ a dx c fs v, σ[i]? = some (some (.ref a)) ∧ H a = some (.ins (E.w.ca c) dx fs) ∧ c ∈ E.w.cl ∧ g ∈ clsF c ∧ fs.lookup g = some v ∧ _
      have p5 : Post E.w cx W ((Ex.fo i g).noio && lo.noio && hi.noio) σ F H own ((readO s i g).bind fun _ s => (evO E.gl E.call lo s).bind fun l s => (evO E.gl E.call hi s).bind fun h s => (readO s i g).bind fun x s => R.of (slD x l h) s) (KVal E H Q) := p'
      cases q : readO s i g with
      | bad => rw [q] at p5; exact p5.elim
      | ex c x s' => unfold readO at q; split at q <;> (try split at q) <;> cases q
      | ok r s' =>
        rw [q] at p5
        obtain ⟨rfl, a, dx, c, fs, v, e1, e2, e3, e4, e5, _⟩ := rs.fslot q
        refine ⟨a, dx, c, fs, v, e1, e2, e3, e4, e5, s', F, own, rs, Post.bnd (nz := (Ex.fo i g).noio && lo.noio && hi.noio) (r := evO E.gl E.call lo s') (f := fun l s => (evO E.gl E.call hi s).bind fun h s => (readO s i g).bind fun x s => R.of (slD x l h) s) (n2 := hi.noio) (fun z => by obtain ⟨z1, z2, z3⟩ := hnz z; exact ⟨z2, z3⟩) p5 fun l s2 F2 H2 own2 f2 rs2 k2 => ?_⟩
        refine ⟨s2, F2, own2, rs2, (k2 F2 f2).bnd (n2 := true) (fun z => ⟨z, rfl⟩) fun u s3 F3 H3 own3 f3 rs3 k3 => ?_⟩
        have p3 := k3 F3 f3
        cases q2 : readO s3 i g with
        | bad => rw [q2] at p3; exact p3.elim
        | ex c x s' => unfold readO at q2; split at q2 <;> (try split at q2) <;> cases q2
        | ok x s4 =>
          rw [q2] at p3
          obtain ⟨rfl, a', dx', c', fs', v', k1, k2, k3, k4, k5, bx⟩ := rs3.fslot q2
          rw [e1] at k1
          cases k1
          have hh := f3.hn hbh a _ (f2.hn hbl a _ e2)
          have := ins_inj hh k2
          subst this
          rw [e5] at k5
          cases k5
          exact fin rs3 bx (fun c z => f2.dm c (f3.dm c z)) p3
    simp only [if_true, R.bind_assoc, R.bind_ok] at p' ⊢
    show ∃ v, σ[i]? = some (some v) ∧ _
    have p5 : Post E.w cx W ((Ex.loc i).noio && lo.noio && hi.noio) σ F H own ((readS s i).bind fun _ s => (evO E.gl E.call lo s).bind fun l s => (evO E.gl E.call hi s).bind fun h s => (readS s i).bind fun x s => R.of (slD x l h) s) (KVal E H Q) := p'
    cases q : readS s i with
    | bad => rw [q] at p5; exact p5.elim
    | ex c x s' => unfold readS at q; split at q <;> cases q
    | ok r s' =>
      rw [q] at p5
      obtain ⟨rfl, v, e1, _⟩ := rs.slot q
      refine ⟨v, e1, s', F, own, rs, Post.bnd (nz := (Ex.loc i).noio && lo.noio && hi.noio) (r := evO E.gl E.call lo s') (f := fun l s => (evO E.gl E.call hi s).bind fun h s => (readS s i).bind fun x s => R.of (slD x l h) s) (n2 := hi.noio) (fun z => by obtain ⟨z1, z2, z3⟩ := hnz z; exact ⟨z2, z3⟩) p5 fun l s2 F2 H2 own2 f2 rs2 k2 => ?_⟩
      refine ⟨s2, F2, own2, rs2, (k2 F2 f2).bnd (n2 := true) (fun z => ⟨z, rfl⟩) fun u s3 F3 H3 own3 f3 rs3 k3 => ?_⟩
      have p3 := k3 F3 f3
      cases q2 : readS s3 i with
      | bad => rw [q2] at p3; exact p3.elim
      | ex c x s' => unfold readS at q2; split at q2 <;> cases q2
      | ok x s4 =>
        rw [q2] at p3
        obtain ⟨rfl, v', e2, bx⟩ := rs3.slot q2
        rw [e1] at e2
        cases e2
        exact fin rs3 bx (fun c z => f2.dm c (f3.dm c z)) p3
/-- a call of a def -/
theorem call_ok {f : Str} {xs : Exs} (h : tE E cx W (.call f xs) σ H Q) : tXs E cx W xs σ H fun vs H1 => ∃ F ds, Sub F H1 ∧ Reps E.w F vs ds ∧ E.call f .un ds ≠ .bad ∧ ∀ n, vs.length = n → spD E f n vs H1 Q (WE W σ) := by
  obtain ⟨s, F, own, rs, p⟩ := h
  have p' : Post E.w cx W xs.noio σ F H own ((evXs E.gl E.call xs s).bind fun ds s => callR (E.call f .un ds) s) (KVal E H Q) := p
  refine ⟨s, F, own, rs, p'.bnd (n2 := true) (fun z => ⟨z, rfl⟩) fun ds s1 F1 H1 own1 f1 rs1 k1 vs hvs => ?_⟩
  have p2 := k1 F1 f1
  refine ⟨F1, ds, rs1.fh, hvs, fun e => by rw [e] at p2; exact p2.elim, fun n hn => ⟨hn, F1, ds, rs1.fh, hvs, ?_⟩⟩
  cases hc : E.call f .un ds with
  | bad => rw [hc] at p2; exact p2.elim
  | ret d fr io =>
    rw [hc] at p2
    exact fun F' H' v ps nv => Post.fin (a := (d, fr)) p2 (.pst ps) (rs1.pst ps) v (nv.val rs1 f1.dm)
  | ex c x io =>
    rw [hc] at p2
    exact fun F' H' dd ps ex => p2 F' H' own1 dd (.pst ps) (rs1.pst ps) ex
theorem own0_out {A : List Addr} {a : Addr} (h : a ∉ A) : ∀ i, a ∉ own0 A i := fun i q => by
  unfold own0 at q
  split at q
  · exact h q
  · cases q
/-- the slot i changed by a call -/
theorem RS.back {w : Wo} {s : Sg} {F H F' H' : Hp} {own : Nat → List Addr} {i : Nat} {v0 : V} {A' : List Addr} {io' : Slot} (rs : RS w cx s F σ H own) (hi : i < s.length) (e : σ[i]? = some (some v0)) (sf : Sub F' H') (f : Frm false F H (own0 (own i)) F' H' (own0 A')) (r : SlotR w [] F' H' io' (some v0) A') (nd : A'.Nodup)
    (hx : SlotR w cx F' H' io' (some v0) A') : RS w cx (s.set i io') F' σ H' (ownSet own i A') ∧ Frm false F H own F' H' (ownSet own i A') := by
  have hA : ∀ a ∈ A', a ∈ own i ∨ H a = none := fun a ha => by
    have := f.oo 0 a (by simpa [own0] using ha)
    simpa [own0] using this
  have hn : ∀ j, j ≠ i → ∀ a ∈ own j, ∀ o, H a = some o → H' a = some o ∧ F' a = none := fun j hj a ha o ho => by
    obtain ⟨h1, h2⟩ := f.hh a o ho (own0_out fun q => rs.dj j i a hj ha q)
    exact ⟨h1, h2 (rs.owned ha).2⟩
  have hd : ∀ a ∈ A', ∀ j, j ≠ i → a ∉ own j := fun a ha j hj q => by
    rcases hA a ha with z | z
    · exact rs.dj j i a hj q z
    · obtain ⟨⟨o, e⟩, _⟩ := rs.owned q
      rw [z] at e; cases e
  refine ⟨⟨by rw [List.length_set]; exact rs.len, sf, fun j x ej => ?_, fun j hj => ?_, fun j => ?_, fun j k a hjk ha hb => ?_⟩, ⟨f.ff, fun a o ho hno => ?_, fun z => (Bool.false_ne_true z).elim, fun j a ha => ?_, fun z => (Bool.false_ne_true z).elim, f.dm⟩⟩
  · by_cases hj : j = i
    · subst hj
      rw [List.getElem?_set_self hi] at ej
      cases ej
      exact ⟨_, e, by rw [ownSet_same]; exact hx⟩
    · rw [List.getElem?_set_ne (Ne.symm hj)] at ej
      obtain ⟨o', e', r'⟩ := rs.sl j x ej
      exact ⟨o', e', by rw [ownSet_ne hj]; exact r'.step f.ff (hn j hj)⟩
  · rw [List.length_set] at hj
    rw [ownSet_ne (by omega)]
    exact rs.out j hj
  · by_cases hj : j = i
    · subst hj; rw [ownSet_same]; exact nd
    · rw [ownSet_ne hj]; exact rs.nd j
  · by_cases hj : j = i
    · subst hj
      rw [ownSet_same] at ha
      rw [ownSet_ne (Ne.symm hjk)] at hb
      exact hd a ha k (Ne.symm hjk) hb
    · rw [ownSet_ne hj] at ha
      by_cases hk : k = i
      · subst hk
        rw [ownSet_same] at hb
        exact hd a hb j hj ha
      · rw [ownSet_ne hk] at hb
        exact rs.dj j k a hjk ha hb
  · exact f.hh a o ho (own0_out (hno i))
  · by_cases hj : j = i
    · subst hj
      rw [ownSet_same] at ha
      exact hA a ha
    · rw [ownSet_ne hj] at ha
      exact .inl ha
theorem SlotR.toCx {w : Wo} {F H : Hp} {io : Slot} {o : Option V} {A : List Addr} (h : SlotR w [] F H io o A) : SlotR w cx F H io o A := by
  cases h with
  | un => exact .un _
  | sh h => exact .sh h
  | ow h n r hl => exact .ow h n r hl
  | ob h n r hc hn => exact .ob h n r hc hn
  | exn h => cases h
  | exnD h => cases h
theorem SlotR.pin {w : Wo} {cx : Cxs} {F H : Hp} {x : Slot} {o : Option V} {A : List Addr} {p : Bool} (h : SlotR w cx F H x o A) : SlotR w cx F H (unpin p x) o A := by
  cases h with
  | un => exact .un _
  | sh h => exact .sh h
  | ow h n r hl => exact .ow h n r hl
  | ob h n r hc hn => exact .ob h n r hc hn
  | exn h => exact .exn h
  | exnD h hf q r => exact .exnD h hf q r
theorem SlotR.nocx {w : Wo} {F H : Hp} {io : Slot} {o : Option V} {A : List Addr} (h : SlotR w cx F H io o A) (hx : ∀ c x, io ≠ .exn c x) : SlotR w [] F H io o A := by
  cases h with
  | un => exact .un _
  | sh h => exact .sh h
  | ow h n r hl => exact .ow h n r hl
  | ob h n r hc hn => exact .ob h n r hc hn
  | exn h => exact absurd rfl (hx _ _)
  | exnD h => exact absurd rfl (hx _ _)
/-- .. behind the look at it -/
theorem io_core {f : Str} {i : Nat} {xs : Exs} (hbad : ∀ c x ds, E.call f (.exn c x) ds = .bad) {s : Sg} {F : Hp} {own : Nat → List Addr} {v : V} (rs : RS E.w cx s F σ H own) (e1 : σ[i]? = some (some v)) (p2 : Post E.w cx W false σ F H own ((evXs E.gl E.call xs s).bind fun ds s => callIo E.call f i ds s) (KVal E H Q)) :
    tXs E cx W xs σ H fun vs H1 => ∃ F io ds, Reps E.w F vs ds ∧ E.call f io ds ≠ .bad ∧ ∀ n, vs.length + 1 = n → spI E f n (v :: vs) H1 Q (WE W σ) := by
  refine ⟨s, F, own, rs, Post.bnd (nz := false) (n1 := xs.noio) (n2 := false) (fun z => (Bool.false_ne_true z).elim) p2 fun ds s1 F1 H1 own1 f1 rs1 k1 vs hvs => ?_⟩
  have p3 := k1 F1 f1
  unfold callIo at p3
  split at p3
  · rename_i io e
    have hi : i < s1.length := (List.getElem?_eq_some_iff.mp e).1
    obtain ⟨o, e2, r⟩ := rs1.sl i _ e
    rw [e1] at e2
    cases e2
    have nb : E.call f io ds ≠ .bad := fun q => by rw [q] at p3; exact p3.elim
    have r0 : SlotR E.w [] F1 H1 io (some v) (own1 i) := r.nocx fun c x q => by subst q; exact nb (hbad c x ds)
    refine ⟨F1, io, ds, hvs, nb, fun n hn => ⟨by simpa using hn, F1, v, vs, ds, io, own1 i, rfl, rs1.fh, r0, rs1.nd i, hvs, ?_⟩⟩
    cases hc : E.call f io ds with
    | bad => exact nb hc
    | ret d fr io' =>
      rw [hc] at p3
      intro F' H' A' vv sf fc r' nd' hv
      obtain ⟨rs2, f2⟩ := rs1.back hi e1 sf fc r' nd' r'.toCx
      refine Post.fin (a := (d, fr)) p3 f2 rs2 vv ?_
      rcases hv with hv | ⟨z, a, us, xs', h1, h2, h3, h4, h5, h6, h7, h8⟩
      · exact .inl hv
      · refine .inr ⟨z, a, us, xs', h1, h2, f1.dm a h3, h4, h5, h6, h7, fun j hj => ?_⟩
        by_cases hji : j = i
        · subst hji
          rw [ownSet_same] at hj
          exact h8 0 (by simpa [own0] using hj)
        · rw [ownSet_ne hji] at hj
          exact rs1.no h3 j hj
    | ex c x io' =>
      rw [hc] at p3
      intro F' H' A' dd sf fc r' nd' hx
      obtain ⟨rs2, f2⟩ := rs1.back hi e1 sf fc r' nd' r'.toCx
      exact p3 F' H' _ dd f2 rs2 hx
  · exact p3.elim
/-- a call that may change the thing in slot i -/
theorem cio_ok {f : Str} {i : Nat} {xs : Exs} (hbad : ∀ c x ds, E.call f (.exn c x) ds = .bad) (h : tE E cx W (.cio f i xs) σ H Q) : ∃ v, σ[i]? = some (some v) ∧ tXs E cx W xs σ H fun vs H1 => ∃ F io ds, Reps E.w F vs ds ∧ E.call f io ds ≠ .bad ∧ ∀ n, vs.length + 1 = n → spI E f n (v :: vs) H1 Q (WE W σ) := by
  obtain ⟨s, F, own, rs, p⟩ := h
  have p' : Post E.w cx W false σ F H own ((hasS s i).bind fun _ s => (evXs E.gl E.call xs s).bind fun ds s => callIo E.call f i ds s) (KVal E H Q) := p
  obtain ⟨v, e1, p2⟩ : ∃ v, σ[i]? = some (some v) ∧ Post E.w cx W false σ F H own ((evXs E.gl E.call xs s).bind fun ds s => callIo E.call f i ds s) (KVal E H Q) := by
    unfold hasS at p'
    split at p'
    · rename_i e
      obtain ⟨o, e1, r⟩ := rs.sl i _ e
      generalize own i = A at r
      cases r with
      | ow h n r hl => exact ⟨_, e1, p'⟩
    · rename_i e
      obtain ⟨o, e1, r⟩ := rs.sl i _ e
      generalize own i = A at r
      cases r with
      | ob h n r _ _ => exact ⟨_, e1, p'⟩
    · exact p'.elim
  exact ⟨v, e1, io_core hbad rs e1 p2⟩
/-- a method's call -/
theorem mio_ok {f c : Str} {i : Nat} {xs : Exs} (hbad : ∀ c x ds, E.call f (.exn c x) ds = .bad) (h : tE E cx W (.mio f c i xs) σ H Q) : ∃ a dx fs, σ[i]? = some (some (.ref a)) ∧ H a = some (.ins (E.w.ca c) dx fs) ∧ (∀ m, m ∉ clsF c → fs.lookup m = none) ∧
    tXs E cx W xs σ H fun vs H1 => ∃ F io ds, Reps E.w F vs ds ∧ E.call f io ds ≠ .bad ∧ ∀ n, vs.length + 1 = n → spI E f n (.ref a :: vs) H1 Q (WE W σ) := by
  obtain ⟨s, F, own, rs, p⟩ := h
  have p' : Post E.w cx W false σ F H own ((hasO s i c).bind fun _ s => (evXs E.gl E.call xs s).bind fun ds s => callIo E.call f i ds s) (KVal E H Q) := p
  unfold hasO at p'
  split at p'
  · rename_i e
    split at p'
    · rename_i hc
      subst hc
      obtain ⟨o, e1, r⟩ := rs.sl i _ e
      generalize own i = A at r
      cases r with
      | ob h n r hc hn =>
        exact ⟨_, _, _, e1, h, fun m hm => lookup_names (fun q => by
          rw [r.names] at q
          obtain ⟨y, hy, rfl⟩ := List.mem_map.mp q
          exact hm (hn y hy)), io_core hbad rs e1 p'⟩
    · exact p'.elim
  · exact p'.elim
theorem blt_xs {f : Blt} {xs : Exs} {n : Bool} {s : Sg} {F : Hp} {own : Nat → List Addr} (rs : RS E.w cx s F σ H own) (hn : n = true → xs.noio = true) (p : Post E.w cx W n σ F H own ((evXs E.gl E.call xs s).bind fun ds s => R.of (bltD f ds) s) (KVal E H Q)) : tCB (rBlt E.w f) (tXs E cx W xs) σ H Q := by
  refine ⟨s, F, own, rs, p.bnd (n2 := true) (fun z => ⟨hn z, rfl⟩) fun ds s1 F1 H1 own1 f1 rs1 k1 vs hvs => ?_⟩
  obtain ⟨r, fr, e, q⟩ := fin_op (k1 F1 f1) rs1 f1.dm
  exact ⟨F1, ds, r, fr, rs1.fh, .of hvs, e, q⟩
def isOne : Exs → Bool
  | .cons false _ .nil => true | _ => false
theorem blt_ok {f : Blt} {xs : Exs} (hx : isOne xs = false) (h : tE E cx W (.blt f xs) σ H Q) : tCB (rBlt E.w f) (tXs E cx W xs) σ H Q := by
  obtain ⟨s, F, own, rs, p⟩ := h
  have e : evE E.gl E.call (.blt f xs) s = (evXs E.gl E.call xs s).bind fun ds s => R.of (bltD f ds) s := by
    match xs, hx with
    | .nil, _ => rfl
    | .cons true _ _, _ => rfl
    | .cons false _ (.cons _ _ _), _ => rfl
    | .cons false _ .nil, h => simp [isOne] at h
  rw [e] at p
  exact blt_xs rs (fun z => z) p
theorem blt_ok1 {f : Blt} {a : Ex} (h : tE E cx W (.blt f (.cons false a .nil)) σ H Q) : tCB (rBlt E.w f) (tCons (tRd E cx W a) tNil) σ H Q := by
  refine one_op (nz := (Ex.blt f (.cons false a .nil)).noio) (fun z => by simp only [Ex.noio, Exs.noio, Bool.and_true] at z; exact z) (fun x s1 F1 H1 own1 vx m rs1 hx dm p => ?_) h
  obtain ⟨r, fr, e, q⟩ := fin_op p rs1 dm
  exact ⟨F1, [x], r, fr, rs1.fh, .cons hx .nil, e, q⟩
theorem rev_ok {X : Cx} (hw : E.w.K = X.K) {a : Ex} (h : tE E cx W (.blt .rev (.cons false a .nil)) σ H Q) : tRevL X.K (tRd E cx W a) σ H Q := by
  refine one_op (nz := (Ex.blt .rev (.cons false a .nil)).noio) (fun z => by simp only [Ex.noio, Exs.noio, Bool.and_true] at z; exact z) (fun x s1 F1 H1 own1 vx m rs1 hx dm p => ?_) h
  obtain ⟨r, fr, e, q⟩ := fin_op p rs1 dm
  cases x with
  | lst xs =>
    have e' : some (D.lst xs.reverse, true) = some (r, fr) := e
    cases e'
    obtain ⟨b, vs, rfl, h1, r1, l1⟩ := hx.lst rs1.fh
    exact ⟨b, vs, rfl, hw ▸ h1, fun p hp => q.lst rs1.fh r1.reverse (by rw [List.length_reverse]; exact l1) hp⟩
  | _ => cases e
theorem isi_ok {a : Ex} {ts : List Ty} (h : tE E cx W (.isi a ts) σ H Q) : tRd E cx W a σ H fun x H1 => ∃ F d, Sub F H1 ∧ Bor E.w F H1 x d ∧ ∀ F' H', Pst F H1 F' H' → Q (.bl (isTys d ts)) H' := by
  refine one_op (nz := (Ex.isi a ts).noio) (fun z => z) (fun x s1 F1 H1 own1 vx m rs1 hx dm p => ?_) h
  exact ⟨F1, x, rs1.fh, hx, fun F' H' ps => p.fin (.pst ps) (rs1.pst ps) _ (.inl ⟨rfl, .bl _⟩)⟩
theorem mthI_ok {X : Cx} (hw : E.w.K = X.K) {o : Ex} {xs : Exs} (h : tE E cx W (.mth .index o xs) σ H Q) : tTM X.K (rIdx E.w) (tE E cx W o) (tXs E cx W xs) σ H Q := by
  obtain ⟨s, F, own, rs, p⟩ := h
  have p' : Post E.w cx W (o.noio && xs.noio) σ F H own ((evE E.gl E.call o s).bind fun x s => (R.of (mthO .index x.1) s).bind fun _ s => (evXs E.gl E.call xs s).bind fun ds s => R.of ((mthD .index x.1 ds).map fun d => (d, false)) s) (KVal E H Q) := p
  refine ⟨s, F, own, rs, p'.bnd (n2 := xs.noio) and_nz fun x s1 F1 H1 own1 f1 rs1 k1 vx hx => ?_⟩
  have p2 := k1 F1 f1
  cases hd : x.1 with
  | tup ys =>
    rw [hd] at p2 hx
    obtain ⟨a, us, rfl, h1, r1, l1⟩ := hx.bor.tup rs1.fh
    refine ⟨⟨a, us, rfl, hw ▸ h1⟩, s1, F1, own1, rs1, Post.bnd (nz := xs.noio) (r := evXs E.gl E.call xs s1) (f := fun ds s => R.of ((mthD .index (.tup ys) ds).map fun d => (d, false)) s) (n2 := true) (fun z => ⟨z, rfl⟩) p2 fun ds s3 F3 H3 own3 f3 rs3 k3 vs hvs => ?_⟩
    obtain ⟨r, e, q⟩ := fin_op1 (k3 F3 f3) rs3 (fun c z => f1.dm c (f3.dm c z))
    exact ⟨F3, .tup ys, ds, r, rs3.fh, hx.bor2 f3, .of hvs, e, q⟩
  | _ => rw [hd] at p2; exact p2.elim
theorem mthB_ok {o : Ex} (h : tE E cx W (.mth .bits o .nil) σ H Q) : tBits (tE E cx W o) σ H Q := by
  obtain ⟨s, F, own, rs, p⟩ := h
  have p' : Post E.w cx W (o.noio && true) σ F H own ((evE E.gl E.call o s).bind fun x s => (R.of (mthO .bits x.1) s).bind fun _ s => R.of ((mthD .bits x.1 []).map fun d => (d, false)) s) (KVal E H Q) := p
  refine ⟨s, F, own, rs, p'.bnd (n2 := true) and_nz fun x s1 F1 H1 own1 f1 rs1 k1 vx hx => ?_⟩
  have p2 := k1 F1 f1
  cases hd : x.1 with
  | int i =>
    rw [hd] at p2 hx
    have p3 : Post E.w cx W true σ F1 H1 own1 (R.of ((mthD .bits (.int i) []).map fun d => (d, false)) s1) (KVal E H Q) := p2
    obtain ⟨r, e, q⟩ := fin_op1 p3 rs1 f1.dm
    cases e
    exact ⟨i, hx.bor.int, q.data rs1.fh (.int _)⟩
  | _ => rw [hd] at p2; exact p2.elim
theorem mthC_ok {X : Cx} (hw : E.w.K = X.K) {o : Ex} {xs : Exs} (h : tE E cx W (.mth .count o xs) σ H Q) : tLM X.K (rCnt E.w) (tE E cx W o) (tXs E cx W xs) σ H Q := by
  obtain ⟨s, F, own, rs, p⟩ := h
  have p' : Post E.w cx W (o.noio && xs.noio) σ F H own ((evE E.gl E.call o s).bind fun x s => (R.of (mthO .count x.1) s).bind fun _ s => (evXs E.gl E.call xs s).bind fun ds s => R.of ((mthD .count x.1 ds).map fun d => (d, false)) s) (KVal E H Q) := p
  refine ⟨s, F, own, rs, p'.bnd (n2 := xs.noio) and_nz fun x s1 F1 H1 own1 f1 rs1 k1 vx hx => ?_⟩
  have p2 := k1 F1 f1
  cases hd : x.1 with
  | lst ys =>
    rw [hd] at p2 hx
    obtain ⟨a, us, rfl, h1, r1, l1⟩ := hx.bor.lst rs1.fh
    refine ⟨⟨a, us, rfl, hw ▸ h1⟩, s1, F1, own1, rs1, Post.bnd (nz := xs.noio) (r := evXs E.gl E.call xs s1) (f := fun ds s => R.of ((mthD .count (.lst ys) ds).map fun d => (d, false)) s) (n2 := true) (fun z => ⟨z, rfl⟩) p2 fun ds s3 F3 H3 own3 f3 rs3 k3 vs hvs => ?_⟩
    obtain ⟨r, e, q⟩ := fin_op1 (k3 F3 f3) rs3 (fun c z => f1.dm c (f3.dm c z))
    exact ⟨F3, .lst ys, ds, r, rs3.fh, hx.bor2 f3, .of hvs, e, q⟩
  | _ => rw [hd] at p2; exact p2.elim
theorem metD_map : ∀ (zs acc : List Str), metD (zs.map D.str) acc = met zs acc
  | [], _ => rfl
  | z :: zs, acc => by rw [List.map_cons, metD, met, metD_map zs]
theorem mthK_ok {X : Cx} (hw : E.w.K = X.K) {o : Ex} (h : tE E cx W (.mth .kinds o .nil) σ H Q) : tKinds X.K (tE E cx W o) σ H Q := by
  obtain ⟨s, F, own, rs, p⟩ := h
  have p' : Post E.w cx W (o.noio && true) σ F H own ((evE E.gl E.call o s).bind fun x s => (R.of (mthO .kinds x.1) s).bind fun _ s => R.of ((mthD .kinds x.1 []).map fun d => (d, false)) s) (KVal E H Q) := p
  refine ⟨s, F, own, rs, p'.bnd (n2 := true) and_nz fun x s1 F1 H1 own1 f1 rs1 k1 vx hx => ?_⟩
  have p2 := k1 F1 f1
  cases hd : x.1 with
  | lst ys =>
    rw [hd] at p2 hx
    have p3 : Post E.w cx W true σ F1 H1 own1 (R.of ((mthD .kinds (.lst ys) []).map fun d => (d, false)) s1) (KVal E H Q) := p2
    obtain ⟨r, e, q⟩ := fin_op1 p3 rs1 f1.dm
    have e' : (if allStr ys && decide (ys.length ≤ 4000) then some (D.int ((metD ys []).length : Nat)) else none) = some r := e
    split at e'
    · rename_i hs
      cases e'
      rw [Bool.and_eq_true, decide_eq_true_iff] at hs
      obtain ⟨a, vs, rfl, h1, r1, l1⟩ := hx.bor.lst rs1.fh
      obtain ⟨zs, rfl, rfl⟩ := strs_of r1 hs.1
      rw [metD_map] at q
      exact ⟨a, zs, rfl, hw ▸ h1, by simpa using hs.2, q.data rs1.fh (.int _)⟩
    · cases e'
  | _ => rw [hd] at p2; exact p2.elim
end
end IL
end
section
set_option maxHeartbeats 1000000
namespace IL
open PySem PySem.Spec PyProof.Rows L2
section
variable {w : Wo} {cx : Cxs} {s : Sg} {F H : Hp} {σ : L2.St} {own : Nat → List Addr}
/-- data stored at a name -/
theorem RS.store (rs : RS w cx s F σ H own) {i : Nat} {d : D} {v : V} {s' : Sg} (e : setS s i (.sh d) = some s') (r : Rep w F v d) : ∃ own', RS w cx s' F (σ.set i (some v)) H own' ∧ (∀ j a, a ∈ own' j → a ∈ own j) := by
  unfold setS at e
  split at e
  · rename_i y hy
    split at e
    · cases e
    · cases e
      have hi : i < s.length := (List.getElem?_eq_some_iff.mp hy).1
      refine ⟨ownSet own i [], rs.put (o := some v) hi (List.length_set ..) (by rw [List.getElem?_set_self (by rw [← rs.len]; exact hi)]) (fun j hj => List.getElem?_set_ne (Ne.symm hj)) (.sh r) List.nodup_nil (fun a ha => nomatch ha), fun j a ha => ?_⟩
      by_cases hj : j = i
      · subst hj; rw [ownSet_same] at ha; cases ha
      · rw [ownSet_ne hj] at ha; exact ha
  · cases e
/-- a new list stored at a name -/
theorem RS.storeN (rs : RS w cx s F σ H own) {i : Nat} {xs : List D} {a : Addr} {vs : List V} {s' : Sg} (e : setS s i (.ow false xs) = some s') (h : H a = some (.lst vs)) (n : F a = none) (r : Reps w F vs xs) (hl : vs.length ≤ limN) (no : ∀ j, a ∉ own j) :
    ∃ own', RS w cx s' F (σ.set i (some (.ref a))) H own' ∧ (∀ j b, b ∈ own' j → b ∈ own j ∨ (j = i ∧ b = a)) := by
  unfold setS at e
  split at e
  · rename_i y hy
    split at e
    · cases e
    · cases e
      have hi : i < s.length := (List.getElem?_eq_some_iff.mp hy).1
      refine ⟨ownSet own i [a], rs.put (o := some (.ref a)) hi (List.length_set ..) (by rw [List.getElem?_set_self (by rw [← rs.len]; exact hi)]) (fun j hj => List.getElem?_set_ne (Ne.symm hj)) (.ow h n r hl) (by simp) (fun b hb j hj => ?_), fun j b hb => ?_⟩
      · obtain rfl : b = a := by simpa using hb
        exact no j
      · by_cases hj : j = i
        · subst hj; rw [ownSet_same] at hb; exact .inr ⟨rfl, by simpa using hb⟩
        · rw [ownSet_ne hj] at hb; exact .inl hb
  · cases e
end
/-- the slots that t does not store at stand -/
def Frt (t : Tg) (σ σ' : L2.St) : Prop := σ'.length = σ.length ∧ ∀ j, t.has j = false → σ'[j]? = σ[j]?
def tG (E : En) (cx : Cxs) (t : Tg) : TG := fun v σ H Q => ∃ s F own d s', RS E.w cx s F σ H own ∧ Rep E.w F v d ∧ asg t d s = some s' ∧ ∀ σ' own', RS E.w cx s' F σ' H own' → (∀ j a, a ∈ own' j → a ∈ own j) → Frt t σ σ' → Q σ' H
def tGs (E : En) (cx : Cxs) (t : Tg) : TGs := fun vs σ H Q => ∃ s F own ds s', RS E.w cx s F σ H own ∧ Reps E.w F vs ds ∧ asg t (.tup ds) s = some s' ∧ ∀ σ' own', RS E.w cx s' F σ' H own' → (∀ j a, a ∈ own' j → a ∈ own j) → Frt t σ σ' → Q σ' H
def isSto (C : Cn) (i : Nat) (x : Str) : Bool := C.N[i]? == some x && (match C.sc.names.lookup x with | some .local => true | some .cell => C.cs.contains x | _ => false) && !(C.io && i == 0)
mutual
def chkT (C : Cn) : Tg → Expr → Bool
  | .nm i, .Name x _ => isSto C i x
  | .nil, .Tuple es _ _ => chkTs C .nil es
  | .cons a r, .Tuple es _ _ => (match es with | e :: es => chkT C a e && chkTs C r es && noStar (e :: es) | [] => false)
  | _, _ => false
def chkTs (C : Cn) : Tg → List Expr → Bool
  | .nil, [] => true
  | .cons a r, e :: es => chkT C a e && chkTs C r es && noStar (e :: es)
  | _, _ => false
end
section
variable {E : En} {C : Cn} {X : Cx} {cx : Cxs} {W : WX}
theorem Good.sto (g : Good E C X cx W) {i : Nat} {x : Str} (h : isSto C i x = true) : X.N[i]? = some x ∧ L2.Loc X.env.scope x ∧ (X.fn x = true ∨ X.env.scope.names.lookup x = some .local) ∧ (C.io = true → i ≠ 0) := by
  unfold isSto at h
  simp only [Bool.and_eq_true, beq_iff_eq, Bool.not_eq_true', Bool.and_eq_false_iff] at h
  obtain ⟨⟨h1, h2⟩, h3⟩ := h
  refine ⟨by rw [g.N]; exact h1, ?_⟩
  have h4 : C.io = true → i ≠ 0 := fun e => by
    rcases h3 with h3 | h3
    · rw [e] at h3; cases h3
    · simpa using h3
  unfold L2.Loc
  rw [← g.sc] at h2
  cases q : X.env.scope.names.lookup x with
  | none => rw [q] at h2; simp at h2
  | some k =>
    rw [q] at h2
    cases k with
    | «local» => exact ⟨.inl rfl, .inr rfl, h4⟩
    | cell => exact ⟨.inr rfl, .inl (g.fn x (by simpa using h2)), h4⟩
    | _ => simp at h2
theorem PG.imp {tg : Expr} {t t' : TG} (h : ∀ v σ H Q, t' v σ H Q → t v σ H Q) (p : PG X tg t) : PG X tg t' := ⟨fun pins s σ H v u Q I r q => p.run pins s σ H v u Q I r (h _ _ _ _ q)⟩
theorem PGs.imp {tg : List Expr} {t t' : TGs} (h : ∀ v σ H Q, t' v σ H Q → t v σ H Q) (p : PGs X tg t) : PGs X tg t' := ⟨fun pins s σ H v u Q I r q => p.run pins s σ H v u Q I r (h _ _ _ _ q)⟩
theorem PG.or {tg : Expr} {t t' : TG} (p : PG X tg t) (p' : PG X tg t') : PG X tg (fun v σ H Q => t v σ H Q ∨ t' v σ H Q) := ⟨fun pins s σ H v u Q I r q => q.elim (p.run pins s σ H v u Q I r) (p'.run pins s σ H v u Q I r)⟩
theorem assign_len {es : List Expr} {env : Env} : (assignEach es env).length = es.length := by
  induction es with
  | nil => rfl
  | cons e es ih => cases e <;> simp [assignEach, ih]
theorem assign_star {es : List Expr} {env : Env} (h : noStar es = true) : (assignEach es env).findIdx? (·.1) = none := by
  induction es with
  | nil => rfl
  | cons e es ih =>
    obtain ⟨h1, h2⟩ := noStar_cons h
    have : assignEach (e :: es) env = (false, assign e env) :: assignEach es env := by cases e <;> first | exact absurd rfl (h1 _ _) | rfl
    rw [this, List.findIdx?_cons]
    simp [ih h2]
theorem assign_cons {e : Expr} {es : List Expr} {env : Env} (h : ∀ x p, e ≠ .Starred x p) : (assignEach (e :: es) env).map (·.2) = assign e env :: (assignEach es env).map (·.2) := by
  cases e <;> first | exact absurd rfl (h _ _) | rfl
theorem asg_len : ∀ {r : Tg} {es : List Expr} {ds : List D} {s s' : Sg}, chkTs C r es = true → asg r (.tup ds) s = some s' → ds.length = es.length
  | .nil, [], ds, s, s', _, h => by cases ds <;> simp [asg] at h <;> rfl
  | .nil, _ :: _, _, _, _, h, _ => by simp [chkTs] at h
  | .cons a r, [], _, _, _, h, _ => by simp [chkTs] at h
  | .nm i, _, _, _, _, h, _ => by simp [chkTs] at h
  | .cons a r, e :: es, [], s, s', _, h => by simp [asg] at h
  | .cons a r, e :: es, d :: ds, s, s', hc, h => by
    simp only [chkTs, Bool.and_eq_true] at hc
    simp only [asg, Option.bind_eq_some_iff] at h
    obtain ⟨s1, _, h⟩ := h
    rw [List.length_cons, List.length_cons, asg_len hc.1.2 h]
theorem asg_lst {a r : Tg} {xs : List D} {s : Sg} : asg (.cons a r) (.lst xs) s = asg (.cons a r) (.tup xs) s := by
  cases xs <;> rfl
theorem asg_lst0 {xs : List D} {s : Sg} : asg .nil (.lst xs) s = asg .nil (.tup xs) s := by
  cases xs <;> rfl
theorem snd_gc {a r : Tg} {e : Expr} {es : List Expr} (pa : PG X e (tG E cx a)) (pr : PGs X es (tGs E cx r)) (h1 : ∀ x p, e ≠ .Starred x p) : PGs X (e :: es) (tGs E cx (.cons a r)) := by
  refine PGs.imp (fun vs σ H Q ⟨s, F, own, ds, s', rs, rp, e, q⟩ => ?_) (pgs_cons pa pr (assign_cons h1))
  cases ds with
  | nil => simp [asg] at e
  | cons d ds =>
    simp only [asg, Option.bind_eq_some_iff] at e
    obtain ⟨s1, e1, e2⟩ := e
    cases rp with
    | cons hv hr =>
      refine ⟨_, _, rfl, s, F, own, d, s1, rs, hv, e1, fun σ1 own1 rs1 sub1 z1 => ?_⟩
      refine ⟨s1, F, own1, ds, s', rs1, hr, e2, fun σ2 own2 rs2 sub2 z2 => q σ2 own2 rs2 (fun j a ha => sub1 j a (sub2 j a ha)) ⟨z2.1.trans z1.1, fun j hj => ?_⟩⟩
      simp only [Tg.has, Bool.or_eq_false_iff] at hj
      exact (z2.2 j hj.2).trans (z1.2 j hj.1)
theorem snd_gt (g : Good E C X cx W) (hc : C.calm = true) {t : Tg} {es : List Expr} {k : Nat} {p : Pos} (ps : PGs X es (tGs E cx t)) (hk : chkTs C t es = true) (hn : noStar es = true) (hl : ∀ xs s, asg t (.lst xs) s = asg t (.tup xs) s) : PG X (.Tuple es k p) (tG E cx t) := by
  have hcx : X.calm = true := by rw [g.calm]; exact hc
  refine PG.imp (fun v σ H Q ⟨s, F, own, d, s', rs, rp, e, q⟩ => ?_) (IL.PG.or (pg_tup (n := es.length) hcx ps assign_len (assign_star hn)) (pg_lst (n := es.length) hcx ps assign_len (assign_star hn)))
  cases d with
  | tup xs =>
    cases rp with
    | tup hq hr hz => exact .inl ⟨_, _, rfl, (g.K ▸ (rs.fh.sqN hq)).sqT, by rw [hr.length, asg_len hk e], s, F, own, xs, s', rs, hr, e, q⟩
  | lst xs =>
    rw [hl] at e
    cases rp with
    | lst hq hr hz => exact .inr ⟨_, _, rfl, g.K ▸ rs.fh.sqL hq, by rw [hr.length, asg_len hk e], s, F, own, xs, s', rs, hr, e, q⟩
  | non => cases t <;> simp [asg, chkTs] at e hk
  | bl _ => cases t <;> simp [asg, chkTs] at e hk
  | int _ => cases t <;> simp [asg, chkTs] at e hk
  | str _ => cases t <;> simp [asg, chkTs] at e hk
  | obj _ _ => cases t <;> simp [asg, chkTs] at e hk
mutual
theorem snd_g (g : Good E C X cx W) (hc : C.calm = true) : ∀ {t : Tg} {e : Expr}, chkT C t e = true → PG X e (tG E cx t)
  | .nm i, e, h => by
    cases e with
    | Name x p =>
      simp only [chkT] at h
      obtain ⟨h1, h2, h3, h4⟩ := g.sto h
      refine PG.imp (fun v σ H Q ⟨s, F, own, d, s', rs, r, e, q⟩ => ?_) (pg_name (by rw [g.N]; exact g.nd) h1 h2 h3)
      obtain ⟨own', rs', sub⟩ := rs.store (by simpa [asg] using e) r
      refine q _ own' rs' sub ⟨List.length_set .., fun j hj => List.getElem?_set_ne fun e => ?_⟩
      subst e
      simp [Tg.has] at hj
    | _ => simp [chkT] at h
  | .nil, e, h => by
    cases e with
    | Tuple es k p =>
      simp only [chkT] at h
      exact snd_gt g hc (snd_gs g hc h) h (by cases es <;> simp_all [chkTs, noStar]) (fun xs s => asg_lst0)
    | _ => simp [chkT] at h
  | .cons a r, e, h => by
    cases e with
    | Tuple es k p =>
      cases es with
      | nil => simp [chkT] at h
      | cons e es =>
        have h : (chkT C a e && chkTs C r es && noStar (e :: es)) = true := h
        have h' : chkTs C (.cons a r) (e :: es) = true := h
        simp only [Bool.and_eq_true] at h
        refine snd_gt g hc ?_ h' h.2 (fun xs s => asg_lst)
        obtain ⟨h1, h2⟩ := noStar_cons h.2
        exact snd_gc (snd_g g hc h.1.1) (snd_gs g hc h.1.2) h1
    | _ => simp [chkT] at h
theorem snd_gs (g : Good E C X cx W) (hc : C.calm = true) : ∀ {t : Tg} {es : List Expr}, chkTs C t es = true → PGs X es (tGs E cx t)
  | .nm i, es, h => by cases es <;> simp [chkTs] at h
  | .nil, es, h => by
    cases es with
    | nil =>
      refine PGs.imp (fun vs σ H Q ⟨s, F, own, ds, s', rs, r, e, q⟩ => ?_) pgs_nil
      cases ds with
      | nil => cases r; cases e; exact ⟨rfl, q σ own rs (fun _ _ h => h) ⟨rfl, fun _ _ => rfl⟩⟩
      | cons _ _ => cases e
    | cons _ _ => simp [chkTs] at h
  | .cons a r, es, h => by
    cases es with
    | nil => simp [chkTs] at h
    | cons e es =>
      simp only [chkTs, Bool.and_eq_true] at h
      obtain ⟨h1, h2⟩ := noStar_cons h.2
      exact snd_gc (snd_g g hc h.1.1) (snd_gs g hc h.1.2) h1
end
end
section
variable {C : Cn}
mutual
/-- a pinned first slot is not stored at -/
theorem chkT_has : ∀ {t : Tg} {e : Expr}, chkT C t e = true → C.io = true → t.has 0 = false
  | .nm i, e, h, z => by
    cases e with
    | Name x p =>
      simp only [chkT, isSto, Bool.and_eq_true, Bool.not_eq_true', z, Bool.true_and] at h
      simpa [Tg.has] using h.2
    | _ => simp [chkT] at h
  | .nil, _, _, _ => rfl
  | .cons a r, e, h, z => by
    cases e with
    | Tuple es k p =>
      cases es with
      | nil => simp [chkT] at h
      | cons e es =>
        have h : (chkT C a e && chkTs C r es && noStar (e :: es)) = true := h
        simp only [Bool.and_eq_true] at h
        simp only [Tg.has, chkT_has h.1.1 z, chkTs_has h.1.2 z, Bool.or_self]
    | _ => simp [chkT] at h
theorem chkTs_has : ∀ {t : Tg} {es : List Expr}, chkTs C t es = true → C.io = true → t.has 0 = false
  | .nm i, es, h, _ => by cases es <;> simp [chkTs] at h
  | .nil, _, _, _ => rfl
  | .cons a r, es, h, z => by
    cases es with
    | nil => simp [chkTs] at h
    | cons e es =>
      simp only [chkTs, Bool.and_eq_true] at h
      simp only [Tg.has, chkT_has h.1.1 z, chkTs_has h.1.2 z, Bool.or_self]
end
end
/-- at each heap that grows from F0: the i-th of ds is given, the end is met behind the last -/
def WalkD (w : Wo) (F0 : Hp) (J : L2.It) (ds : List D) : Prop := ∀ (i : Nat) (F H : Hp), Sub F0 F → Sub F H →
  (∀ d, ds[i]? = some d → J.go i H ∧ ∀ x H', J.yld i H x H' → ∃ F', Pst F H F' H' ∧ Rep w F' x d) ∧ (i = ds.length → J.stop i H)
def tI (E : En) (cx : Cxs) (W : WX) (it : IL.It) : TI := fun σ H R => ∃ s F own, RS E.w cx s F σ H own ∧ Post E.w cx W it.noio σ F H own (evIt E.gl E.call it s) (fun ds _ F' H' _ => ∀ J, WalkD E.w F' J ds → R J H')
section
variable {w : Wo} {F0 : Hp}
theorem walkD_lst {K : PySem.W.Frag} {a : Addr} {vs : List V} {ds : List D} (h : SqL K F0 a vs) (r : Reps w F0 vs ds) : WalkD w F0 (Itl K a) ds := fun i F H s1 s2 => by
  have q : SqL K H a vs := s2.sqL (s1.sqL h)
  refine ⟨fun d e => ?_, fun e => ⟨vs, q, by rw [r.length, e]; exact Nat.le_refl _⟩⟩
  obtain ⟨v, e1, r1⟩ := r.get e
  refine ⟨⟨vs, v, q, e1⟩, fun x H' y => ?_⟩
  obtain ⟨rfl, y⟩ := y
  have := y vs q
  rw [e1] at this
  cases this
  exact ⟨F, .refl s2, r1.mono s1⟩
theorem walkD_tup {K : PySem.W.Frag} {a : Addr} {vs : List V} {ds : List D} (h : SqN K F0 a vs) (r : Reps w F0 vs ds) : WalkD w F0 (Itt K a) ds := fun i F H s1 s2 => by
  have q : SqT K H a vs := (s2.sqN (s1.sqN h)).sqT
  refine ⟨fun d e => ?_, fun e => ⟨vs, q, by rw [r.length, e]; exact Nat.le_refl _⟩⟩
  obtain ⟨v, e1, r1⟩ := r.get e
  refine ⟨⟨vs, v, q, e1⟩, fun x H' y => ?_⟩
  obtain ⟨rfl, y⟩ := y
  have := y vs q
  rw [e1] at this
  cases this
  exact ⟨F, .refl s2, r1.mono s1⟩
theorem walkD_str {z : Str} (k : PyData.strOk z = true) : WalkD w F0 (Its z) (z.cps.toList.map fun c => .str ⟨#[c]⟩) := fun i F H s1 s2 => by
  have hl : (z.cps.toList.map fun c => D.str ⟨#[c]⟩).length = z.cps.size := by simp
  refine ⟨fun d e => ?_, fun e => by rw [hl] at e; exact Nat.le_of_eq e.symm⟩
  rw [List.getElem?_map, Option.map_eq_some_iff] at e
  obtain ⟨c, e, rfl⟩ := e
  have e' : z.cps[i]? = some c := by simpa using e
  refine ⟨(Array.getElem?_eq_some_iff.mp e').1, fun x H' y => ?_⟩
  obtain ⟨rfl, c', e2, rfl⟩ := y
  rw [e'] at e2
  cases e2
  refine ⟨F, .refl s2, .str _ (strOk_sub k fun b hb => ?_) (by show 1 ≤ limN; decide)⟩
  obtain rfl : b = c := by simpa using hb
  exact List.mem_of_getElem? e
theorem walkD_rng {a b : Int} : WalkD w F0 (Itr a (b - a).toNat) (rngL a b) := fun i F H s1 s2 => by
  have hl : (rngL a b).length = (b - a).toNat := by simp [rngL]
  refine ⟨fun d e => ?_, fun e => by rw [hl] at e; exact Nat.le_of_eq e.symm⟩
  have hi : i < (b - a).toNat := by rw [← hl]; exact (List.getElem?_eq_some_iff.mp e).1
  unfold rngL at e
  rw [List.getElem?_map, List.getElem?_range hi] at e
  cases e
  refine ⟨hi, fun x H' y => ?_⟩
  obtain ⟨rfl, rfl⟩ := y
  exact ⟨F, .refl s2, .int _⟩
end
section
variable {E : En} {C : Cn} {X : Cx} {cx : Cxs} {W : WX} {tg : Expr}
def iSeq (K : PySem.W.Frag) (te : TE) : TI := fun σ H R => te σ H fun x H1 => (∃ a xs, x = .ref a ∧ SqL K H1 a xs ∧ R (Itl K a) H1) ∨ (∃ a xs, x = .ref a ∧ SqT K H1 a xs ∧ R (Itt K a) H1) ∨ ∃ z, x = .str z ∧ R (Its z) H1
theorem pi_seq {l : Expr} {tl : TE} (hl : PE X l tl) : PI X tg l (iSeq X.K tl) := by
  refine ⟨fun pins s σ H R I h => ?_⟩
  refine thn (hl.run pins s σ H _ I h) fun v s1 ⟨x, H1, I1, r1, q1⟩ => ?_
  rcases q1 with ⟨a, xs, rfl, hq, q⟩ | ⟨a, xs, rfl, hq, q⟩ | ⟨z, rfl, q⟩
  · cases r1
    obtain ⟨its, rv, p, hz⟩ := I1.list hq
    refine wpAny_pyIter_list p.isList ?_
    refine ⟨s1.heap.objs.size, [s1.heap.objs.size], _, _, H1, rfl, I1.kept (t' := s1.toks) fun b o e => Heap.get?_push_of_some _ e, turn_list a _, ⟨_, Heap.get?_push_size _ rfl, rfl, rfl⟩, fun b hb => ?_, q⟩
    have e : b = s1.heap.objs.size := by simpa using hb
    subst e
    exact I1.fpOk (Nat.le_refl _) (I1.hok.fresh (Nat.le_refl _))
  · cases r1
    obtain ⟨its, rv, p, hz⟩ := I1.tuple hq
    refine wpAny_pyIter_tuple (show s1.heap.IsTuple a its.toArray from p) ?_
    refine ⟨s1.heap.objs.size, [s1.heap.objs.size], _, _, H1, rfl, I1.kept (t' := s1.toks) fun b o e => Heap.get?_push_of_some _ e, turn_tuple a _, ⟨_, Heap.get?_push_size _ rfl, rfl, rfl⟩, fun b hb => ?_, q⟩
    have e : b = s1.heap.objs.size := by simpa using hb
    subst e
    exact I1.fpOk (Nat.le_refl _) (I1.hok.fresh (Nat.le_refl _))
  · obtain ⟨t, rfl⟩ := r1
    cases ha : z.cps.all (· < 128)
    · exact wpAny_pyIter_wide ha (pi_one (tk := s1.toks) I1 _ (turn_str _ z t "str_iterator" (.inr rfl)) ⟨_, Heap.get?_push_size _ rfl, rfl, rfl⟩ q)
    · exact wpAny_pyIter_ascii ha (pi_one (tk := s1.toks) I1 _ (turn_str _ z t "str_ascii_iterator" (.inl rfl)) ⟨_, Heap.get?_push_size _ rfl, rfl, rfl⟩ q)
theorem PI.imp {l : Expr} {t t' : TI} (h : ∀ σ H R, t' σ H R → t σ H R) (p : PI X tg l t) : PI X tg l t' := ⟨fun pins s σ H R I q => p.run pins s σ H R I (h _ _ _ q)⟩
theorem seq_ok (hw : E.w.K = X.K) {e : Ex} {σ : L2.St} {H : Hp} {R : L2.It → Hp → Prop} (h : tI E cx W (.seq e) σ H R) : iSeq X.K (tE E cx W e) σ H R := by
  obtain ⟨s, F, own, rs, p⟩ := h
  have p' : Post E.w cx W e.noio σ F H own ((evE E.gl E.call e s).bind fun x s => IL.R.of (itemsD x.1) s) (fun ds _ F' H' _ => ∀ J, WalkD E.w F' J ds → R J H') := p
  refine ⟨s, F, own, rs, p'.bnd (n2 := true) (fun z => ⟨z, rfl⟩) fun x s1 F1 H1 own1 f1 rs1 k1 vx hx => ?_⟩
  obtain ⟨F2, sf, f2, rs2, hr⟩ := hx.frz f1 rs1
  have p2 := k1 F2 f2
  cases hd : x.1 with
  | lst xs =>
    rw [hd] at p2 hr
    cases hr with
    | lst hq hr hz => exact .inl ⟨_, _, rfl, hw ▸ rs2.fh.sqL hq, Post.fin (a := xs) p2 .refl rs2 _ (walkD_lst (hw ▸ hq) hr)⟩
  | tup xs =>
    rw [hd] at p2 hr
    cases hr with
    | tup hq hr hz => exact .inr (.inl ⟨_, _, rfl, (hw ▸ rs2.fh.sqN hq).sqT, Post.fin (a := xs) p2 .refl rs2 _ (walkD_tup (hw ▸ hq) hr)⟩)
  | str z =>
    rw [hd] at p2 hr
    cases hr with
    | str _ k hl => exact .inr (.inr ⟨z, rfl, Post.fin (a := z.cps.toList.map fun c => D.str ⟨#[c]⟩) p2 .refl rs2 _ (walkD_str k)⟩)
  | _ => rw [hd] at p2; exact p2.elim
theorem rngD_some {a b : Int} {ds : List D} (h : rngD a b = some ds) : (-1000000000 ≤ a ∧ a ≤ 1000000000 ∧ -1000000000 ≤ b ∧ b ≤ 1000000000) ∧ ds = rngL a b := by
  unfold rngD at h
  split at h
  · rename_i hc
    cases h
    exact ⟨⟨hc.1, hc.2.1, hc.2.2.1, hc.2.2.2.1⟩, rfl⟩
  · cases h
theorem rng1_ok {a : Ex} {σ : L2.St} {H : Hp} {R : L2.It → Hp → Prop} (h : tI E cx W (.rng a) σ H R) : iRng1 (tCons (tE E cx W a) tNil) σ H R := by
  obtain ⟨s, F, own, rs, p⟩ := h
  have p' : Post E.w cx W a.noio σ F H own ((evE E.gl E.call a s).bind fun x s => (intR x.1 s).bind fun j s => IL.R.of (rngD 0 j) s) (fun ds _ F' H' _ => ∀ J, WalkD E.w F' J ds → R J H') := p
  refine ⟨s, F, own, rs, p'.bnd (n2 := true) (fun z => ⟨z, rfl⟩) fun x s1 F1 H1 own1 f1 rs1 k1 vx hx => ?_⟩
  have p2 := k1 F1 f1
  cases hd : x.1 with
  | int j =>
    rw [hd] at p2 hx
    obtain ⟨ds, e, p3⟩ := Post.of (o := rngD 0 j) p2
    obtain ⟨⟨_, _, h1, h2⟩, rfl⟩ := rngD_some e
    refine ⟨j, by rw [hx.bor.int], by omega, by omega, p3.fin .refl rs1 _ ?_⟩
    have := walkD_rng (w := E.w) (F0 := F1) (a := 0) (b := j)
    rw [Int.sub_zero] at this
    exact this
  | _ => rw [hd] at p2; exact p2.elim
theorem rng2_ok {a b : Ex} {σ : L2.St} {H : Hp} {R : L2.It → Hp → Prop} (h : tI E cx W (.rng2 a b) σ H R) : iRng2 (tCons (tE E cx W a) (tCons (tE E cx W b) tNil)) σ H R := by
  obtain ⟨s, F, own, rs, p⟩ := h
  have p' : Post E.w cx W (a.noio && b.noio) σ F H own ((evE E.gl E.call a s).bind fun x s => (evE E.gl E.call b s).bind fun y s => (intR x.1 s).bind fun i s => (intR y.1 s).bind fun j s => IL.R.of (rngD i j) s) (fun ds _ F' H' _ => ∀ J, WalkD E.w F' J ds → R J H') := p
  refine ⟨s, F, own, rs, p'.bnd (n2 := b.noio) and_nz fun x s1 F1 H1 own1 f1 rs1 k1 vx hx => ?_⟩
  refine ⟨s1, F1, own1, rs1, (k1 F1 f1).bnd (n2 := true) (fun z => ⟨z, rfl⟩) fun y s2 F2 H2 own2 f2 rs2 k2 vy hy => ?_⟩
  have p3 := k2 F2 f2
  cases hd : x.1 with
  | int i =>
    rw [hd] at p3 hx
    cases hd2 : y.1 with
    | int j =>
      rw [hd2] at p3 hy
      obtain ⟨ds, e, p4⟩ := Post.of (o := rngD i j) p3
      obtain ⟨⟨h1, h2, h3, h4⟩, rfl⟩ := rngD_some e
      exact ⟨i, j, by rw [hx.bor.int, hy.bor.int], ⟨by omega, by omega, by omega, by omega⟩, p4.fin .refl rs2 _ walkD_rng⟩
    | _ => rw [hd2] at p3; exact p3.elim
  | _ => rw [hd] at p3; exact p3.elim
end
end IL
end
section
set_option maxHeartbeats 4000000
namespace IL
open PySem PySem.Spec PyProof.Rows L2
section
variable {prog : Program} {w : World} {A : Around} {E : Value → Shared → Prop} {s : Shared}
theorem meets_enum_new1 {v : Value} {o : Obj} {H : Heap → Prop} (B : Begins v o H) :
    Meets (Builtin.«enumerate.__new__» ⟨[.type "enumerate", v], []⟩) (fun _ R s => H s.heap ∧
      R (.ok (.ret (.ref (s.heap.push o).objs.size))) { s with heap := (s.heap.push o).push { cls := .type "enumerate", data := .fields #[.none, .bool false, .ref s.heap.objs.size, rawInt 0, .none, .none] } }) :=
  .of_wp fun prog w A R s h => by
    obtain ⟨hp, g, d, tk, os⟩ := s; obtain ⟨h1, h⟩ := h
    have hsub := sub_enumerate
    have q1 : ∀ {A' : Around} {E : Value → Shared → Prop} {Q : Value → Shared → Prop}, Q (.ref hp.objs.size) ⟨hp.push o, g, d, tk, os⟩ → wpAny (model prog w) A' (pyIter v) Q E ⟨hp, g, d, tk, os⟩ :=
      fun q => B.iter prog w _ _ ⟨hp, g, d, tk, os⟩ _ h1 q
    wp_walk using q1
    refine wpAny_stack_any fun st => wpAny_pure ?_
    split
    · rename_i c _ _ _ _ _
      cases (c == Value.type "enumerate")
      · wp_walk using q1
        exact ⟨_, rfl, h⟩
      · wp_walk using q1
        exact ⟨_, rfl, h⟩
    · wp_walk using q1
      exact ⟨_, rfl, h⟩
theorem enum_begins1 {v : Value} {o : Obj} {H : Heap → Prop} {Q : Value → Shared → Prop} (B : Begins v o H) (h1 : H s.heap)
    (h : ∀ h', IsEnum h' (s.heap.objs.size + 1) s.heap.objs.size 0 .none → h'.get? s.heap.objs.size = some o → h'.objs.size = s.heap.objs.size + 2 →
      (∀ b o, s.heap.get? b = some o → h'.get? b = some o) → Q (.ref (s.heap.objs.size + 1)) { s with heap := h' }) :
    wpAny (model prog w) A (call (.type "enumerate") [v]) Q E s := by
  refine callType_new F.called_enumerate (by decide) (F.typeCall_enumerate_1 _) (F.newCall_enumerate_1 _) (fun obj => F.args_object_init_2 obj _) F.entry_enumerate_new
    (meets_enum_new1 B) ⟨h1, ?_⟩
  have hz : (s.heap.push o).objs.size = s.heap.objs.size + 1 := Heap.size_push ..
  show _ ∧ _
  rw [hz]
  have he : IsEnum ((s.heap.push o).push { cls := .type "enumerate", data := .fields #[.none, .bool false, .ref s.heap.objs.size, rawInt 0, .none, .none] }) (s.heap.objs.size + 1) s.heap.objs.size 0 .none := by
    have := Heap.get?_push_size (s.heap.push o) (o := { cls := .type "enumerate", data := .fields #[.none, .bool false, .ref s.heap.objs.size, rawInt 0, .none, .none] }) rfl
    rw [hz] at this; exact this
  refine ⟨⟨_, he, rfl⟩, h _ he (Heap.get?_push_of_some _ (Heap.get?_push_size _ B.free)) (by rw [Heap.size_push, hz]) fun b o x => Heap.get?_push_of_some _ (Heap.get?_push_of_some _ x)⟩
end
inductive SK where
  | l (a : Addr) | t (a : Addr) | s (z : Str)
namespace SK
def v : SK → V
  | .l a => .ref a | .t a => .ref a | .s z => .str z
def val (u : Tok) : SK → Value
  | .l a => .ref a | .t a => .ref a | .s z => .str z u
def At (K : PySem.W.Frag) (k : SK) (H : Hp) (xs : List V) : Prop := match k with
  | .l a => SqL K H a xs | .t a => SqT K H a xs | .s z => xs = z.cps.toList.map fun c => V.str ⟨#[c]⟩
def st (u : Tok) (k : SK) (it : Addr) (i : Nat) (h : Heap) : Prop := match k with
  | .l a => h.IsListIter it a i | .t a => h.IsTupleIter it a i | .s z => h.IsStrIter it (strIterType z) z u i
def ad : SK → List Addr
  | .l a => [a] | .t a => [a] | .s _ => []
def ob (u : Tok) : SK → Obj
  | .l a => { cls := .type "list_iterator", data := .fields #[.ref a, .int 0 0] }
  | .t a => { cls := .type "tuple_iterator", data := .fields #[.ref a, .int 0 0] }
  | .s z => { cls := .type (strIterType z), data := .fields #[.str z u, .int 0 0] }
end SK
section
variable {X : Cx} {pins : List (Addr × Obj)} {σ : L2.St} {H : Hp} {s : Shared} {k : SK} {u : Tok} {xs : List V}
theorem SK.rel {v : Value} (h : RelV k.v v) : ∃ u, v = k.val u := by
  cases k with
  | l a => cases h; exact ⟨0, rfl⟩
  | t a => cases h; exact ⟨0, rfl⟩
  | s z => obtain ⟨t, rfl⟩ := h; exact ⟨t, rfl⟩
theorem SK.st_at {it : Addr} {i : Nat} {h h' : Heap} (hs : k.st u it i h) (e : ∀ o, h.get? it = some o → h'.get? it = some o) : k.st u it i h' := by
  cases k with
  | l a => exact Heap.IsListIter.at hs e
  | t a => exact Heap.IsTupleIter.at hs e
  | s z => obtain ⟨o, ho, r⟩ := hs; exact ⟨o, e o ho, r⟩
theorem SK.st_obj {it : Addr} {i : Nat} {h : Heap} (hs : k.st u it i h) : ∃ o, h.get? it = some o ∧ ∀ v, o.data ≠ .cell v := by
  cases k with
  | l a => obtain ⟨o, ho, hc, hd⟩ := hs; exact ⟨o, ho, fun v q => by rw [hd] at q; cases q⟩
  | t a => obtain ⟨o, ho, hc, hd⟩ := hs; exact ⟨o, ho, fun v q => by rw [hd] at q; cases q⟩
  | s z => obtain ⟨o, ho, hc, hd⟩ := hs; exact ⟨o, ho, fun v q => by rw [hd] at q; cases q⟩
theorem SK.inj {ys : List V} (I : Inv X pins σ H s) (h1 : k.At X.K H xs) (h2 : k.At X.K H ys) : xs = ys := by
  cases k with
  | l a => exact I.list_inj h1 h2
  | t a => exact I.tuple_inj h1 h2
  | s z => exact h1.trans h2.symm
theorem vals_at {xs : List V} {us : List Value} {j : Nat} {v : Value} (r : Vals xs us) (h : us[j]? = some v) : ∃ x, xs[j]? = some x ∧ RelV x v := by
  have hj : j < xs.length := by rw [r.length]; exact (List.getElem?_eq_some_iff.mp h).1
  obtain ⟨w, hw, rw'⟩ := r.get (List.getElem?_eq_getElem hj)
  rw [h] at hw
  cases hw
  exact ⟨_, List.getElem?_eq_getElem hj, rw'⟩
/-- what its iterator draws -/
theorem SK.draws (I : Inv X pins σ H s) (h : k.At X.K H xs) {it : Addr} {i : Nat} (hs : k.st u it i s.heap) (hne : it ∉ k.ad) {A : Around} (hh : A.handled = none) :
    ∃ (Pv : Nat → Value → Prop) (St : Nat → Heap → Prop), Draws X.prog X.w A it (it :: k.ad) xs.length Pv St ∧ St i s.heap ∧ (∀ j v, Pv j v → ∃ x, xs[j]? = some x ∧ RelV x v) ∧ ∀ j h, St j h → k.st u it j h := by
  cases k with
  | l a =>
    obtain ⟨its, rv, p, hz⟩ := I.list h
    have hl : its.toArray.size = xs.length := by rw [List.size_toArray]; exact rv.length.symm
    refine ⟨_, _, hl ▸ Draws.list hh it a (fun e => hne (by rw [e]; exact List.mem_cons_self)) its.toArray, ⟨hs, p.isList⟩, fun j v hv => vals_at rv (by simpa using hv), fun j h q => q.1⟩
  | t a =>
    obtain ⟨its, rv, p, hz⟩ := I.tuple h
    have hl : its.toArray.size = xs.length := by rw [List.size_toArray]; exact rv.length.symm
    refine ⟨_, _, hl ▸ Draws.tuple hh it a (fun e => hne (by rw [e]; exact List.mem_cons_self)) its.toArray, ⟨hs, p⟩, fun j v hv => vals_at rv (by simpa using hv), fun j h q => q.1⟩
  | s z =>
    obtain rfl := h
    have hl : z.cps.size = (z.cps.toList.map fun c => V.str ⟨#[c]⟩).length := by simp
    refine ⟨_, _, hl ▸ Draws.text hh it z u, hs, fun j v hv => ?_, fun j h q => q⟩
    obtain ⟨c, t, hc, rfl⟩ := hv
    refine ⟨.str ⟨#[c]⟩, ?_, ⟨t, rfl⟩⟩
    rw [List.getElem?_map]
    have : z.cps.toList[j]? = some c := by simpa using hc
    rw [this]; rfl
theorem SK.begins (I : Inv X pins σ H s) (h : k.At X.K H xs) : ∃ Hh : Heap → Prop, Begins (k.val u) (k.ob u) Hh ∧ Hh s.heap := by
  cases k with
  | l a => obtain ⟨its, rv, p, hz⟩ := I.list h; exact ⟨_, begins_list a its.toArray, p.isList⟩
  | t a => obtain ⟨its, rv, p, hz⟩ := I.tuple h; exact ⟨_, begins_tuple a its.toArray, p⟩
  | s z => exact ⟨_, begins_text z u, trivial⟩
theorem SK.st0 {it : Addr} {h : Heap} (e : h.get? it = some (k.ob u)) : k.st u it 0 h := by
  cases k with
  | l a => exact ⟨_, e, rfl, rfl⟩
  | t a => exact ⟨_, e, rfl, rfl⟩
  | s z => exact ⟨_, e, rfl, rfl⟩
theorem SK.ad_lt (I : Inv X pins σ H s) (h : k.At X.K H xs) : ∀ b ∈ k.ad, b < s.heap.objs.size := by
  cases k with
  | l a =>
    obtain ⟨its, rv, p, hz⟩ := I.list h
    intro b hb
    obtain rfl : b = a := by simpa [SK.ad] using hb
    exact p.lt
  | t a =>
    obtain ⟨its, rv, p, hz⟩ := I.tuple h
    intro b hb
    obtain rfl : b = a := by simpa [SK.ad] using hb
    obtain ⟨o, ho, _⟩ := p
    exact Heap.lt_size ho
  | s z => intro b hb; cases hb
end
/-- a pair of ours -/
def prO (us : List Value) (xs : List V) : HO := .frz (tupO us) (.tup xs)
def IteN (K : PySem.W.Frag) (k : SK) : L2.It :=
  ⟨fun i H => ∃ (xs : List V) (x : V), k.At K H xs ∧ xs[i]? = some x, fun i H v H' => ∃ T x us, v = .ref T ∧ H T = none ∧ H' = upd H T (prO us [.int (i : Nat), x]) ∧ ∀ xs, k.At K H xs → xs[i]? = some x, fun i H => ∃ xs : List V, k.At K H xs ∧ xs.length = i⟩
theorem turn_enumN {P : Program} {w : World} {K : PySem.W.Frag} {elts : List Expr} {kk : Nat} {tpos : Pos} {k : SK} {u : Tok} {e it : Addr} (hei : e ≠ it) (hea : e ∉ k.ad) (hia : it ∉ k.ad) :
    Turn P w K (.Tuple elts kk tpos) (IteN K k) [e, it] e (fun i h => (∃ old, IsEnum h e it ((i : Nat) : Int) old) ∧ k.st u it i h) where
  mem := by simp
  obj := fun i h st b hb => by
    obtain ⟨⟨old, he⟩, hst⟩ := st
    have e' : b = e ∨ b = it := by simpa using hb
    rcases e' with z | z
    · rw [z]; exact ⟨_, he, fun v q => nomatch q⟩
    · rw [z]; exact SK.st_obj hst
  keep := fun i h h' st kp => let ⟨⟨old, he⟩, hi⟩ := st; ⟨⟨old, kp e (by simp) _ he⟩, SK.st_at hi fun o q => kp it (by simp) o q⟩
  item := by
    intro X hP hw hK hc i pins s σ H E I hf st hg
    subst hP hw hK
    obtain ⟨⟨old, he⟩, hit⟩ := st
    obtain ⟨xs, x, hq, hx⟩ := hg
    obtain ⟨Pv, St, D, st0, hPv, hSt⟩ := SK.draws I hq hit hia (A := X.A.in1) (show X.A.in1.handled = none from I.ok.hd hc)
    have hi : i < xs.length := (List.getElem?_eq_some_iff.mp hx).1
    have hel : e < s.heap.objs.size := Heap.lt_size he
    have hil : it < s.heap.objs.size := by obtain ⟨_, q, _⟩ := SK.st_obj hit; exact Heap.lt_size q
    refine wpAny_pyNext_enum_itemD D he st0 hi hei (fun q => by rcases List.mem_cons.mp q with q | q; exact hei q; exact hea q) fun uu h' tk hu ho hst' hT hsz hk => ?_
    obtain ⟨x', hx', ru⟩ := hPv _ _ hu
    rw [hx] at hx'
    cases hx'
    refine ⟨_, rfl, wpAny_letOwnedTupleGo_enum (s := { s with heap := h', toks := tk + 1 }) ho fun h'' he' sb => ?_⟩
    have hT2 : h''.get? s.heap.objs.size = some { cls := .type "tuple", data := .seq #[.int i tk, uu] } := (sb.2 _ (Nat.ne_of_gt hel)).trans hT
    have new : ObjOk X.prog X.w (upd H s.heap.objs.size (prO [.int i tk, uu] [.int (i : Nat), x])) h'' s.heap.objs.size (prO [.int i tk, uu] [.int (i : Nat), x]) :=
      ⟨hT2, by show 2 ≤ sizeLine; decide, [.int i tk, uu], .cons ⟨_, rfl⟩ (.cons ru .nil), ⟨_, hT2, rfl, _, rfl⟩⟩
    have I1 : Inv X pins σ (upd H s.heap.objs.size (prO [.int i tk, uu] [.int (i : Nat), x])) { s with heap := h'', toks := tk + 1 } :=
      I.turnedNew (ch := [e, it]) (fun b ob hb q => (sb.2 b (fun z => hb (by simp [z]))).trans (hk b ob (fun z => hb (by simp [z])) (fun z => hb (by simp [z])) q)) hf (Nat.le_refl _) new
    refine ⟨.ref s.heap.objs.size, _, I1, rfl, ⟨_, x, _, rfl, I.hok.fresh (Nat.le_refl _), rfl, fun ys hy => by rw [SK.inj I hy hq]; exact hx⟩, ⟨⟨uu, ?_⟩, SK.st_at (hSt _ _ hst') fun o q => (sb.2 it (Ne.symm hei)).trans q⟩, fun b hb => ?_⟩
    · have e1 : ((i + 1 : Nat) : Int) = (i : Int) + 1 := by omega
      rw [e1]; exact he'
    · have hb' : b < s.heap.objs.size := by
        have e' : b = e ∨ b = it := by simpa using hb
        rcases e' with z | z
        · rw [z]; exact hel
        · rw [z]; exact hil
      rw [upd_ne (Nat.ne_of_lt hb')]
      exact (hf b hb).1
  done := by
    intro X hP hw hK hc i pins s σ H E I hf st hg
    subst hP hw hK
    obtain ⟨⟨old, he⟩, hit⟩ := st
    obtain ⟨xs, hq, hx⟩ := hg
    subst hx
    obtain ⟨Pv, St, D, st0, hPv, hSt⟩ := SK.draws I hq hit hia (A := X.A.in1) (show X.A.in1.handled = none from I.ok.hd hc)
    obtain ⟨f0, f1, f2, f3, f4, f5⟩ := hf it (by simp)
    exact wpAny_pyNext_enum_endD D he st0 fun h' eb => ⟨rfl, I.turned (t' := s.toks) (fun b o hb q => eb b o hb q) f0 f1 f3 f4 f5⟩
  self := fun A i s Q E st h => let ⟨⟨_, he⟩, _⟩ := st; wpAny_pyIter_enum he h
def iEnumN (K : PySem.W.Frag) (ta : TA) : TI := fun σ H R => ta σ H fun vs H1 => ∃ k xs, vs = [SK.v k] ∧ SK.At K k H1 xs ∧ R (IteN K k) H1
theorem pi_enumN {X : Cx} {e : Expr} {ta : TA} {p pos tpos : Pos} {elts : List Expr} {kk : Nat} (hg : Gl X "enumerate") (hm : X.mg "enumerate" = none) (ha : PA X [e] ta) (hs : starEach [e] X.env = [(false, eval e X.env)]) :
    PI X (.Tuple elts kk tpos) (.Call (.Name "enumerate" p) [e] [] pos) (iEnumN X.K ta) := by
  refine ⟨fun pins s σ H R I h => ?_⟩
  refine Call_ (ld_blt I hg hm PyProof.Rows.boot_enumerate (PyProof.Rows.callWith_type1 (thn (ha.run pos pins s σ H _ I h) fun us s1 ⟨vs, H1, I1, r1, q1⟩ => ?_) hs rfl))
  obtain ⟨k, xs, ex, hq, q⟩ := q1
  subst ex
  cases r1 with
  | cons r rr =>
    cases rr
    obtain ⟨u, rfl⟩ := SK.rel r
    obtain ⟨Hh, B, hB⟩ := SK.begins (u := u) I1 hq
    have hlt := SK.ad_lt I1 hq
    refine enum_begins1 B hB fun h' he hit hsz hk => wpAny_pyIter_enum he ?_
    have I2 : Inv X pins σ H1 { s1 with heap := h' } := I1.kept (t' := s1.toks) hk
    refine ⟨s1.heap.objs.size + 1, [s1.heap.objs.size + 1, s1.heap.objs.size], _, _, H1, rfl, I2, turn_enumN (u := u) (Nat.succ_ne_self _) (fun hb => Nat.lt_irrefl _ (Nat.lt_trans (Nat.lt_succ_self _) (hlt _ hb))) (fun hb => Nat.lt_irrefl _ (hlt _ hb)), ⟨⟨.none, he⟩, SK.st0 hit⟩, fun b hb => ?_, q⟩
    have e' : b = s1.heap.objs.size + 1 ∨ b = s1.heap.objs.size := by simpa using hb
    have hle : s1.heap.objs.size ≤ b := by
      rcases e' with z | z
      · rw [z]; exact Nat.le_add_right _ _
      · rw [z]; exact Nat.le_refl _
    exact I1.fpOk hle (I1.hok.fresh hle)
def ItzN (K : PySem.W.Frag) (k l : SK) : L2.It :=
  ⟨fun i H => ∃ (xs ys : List V) (x y : V), k.At K H xs ∧ l.At K H ys ∧ xs[i]? = some x ∧ ys[i]? = some y,
    fun i H v H' => ∃ T x y us, v = .ref T ∧ H T = none ∧ H' = upd H T (prO us [x, y]) ∧ (∀ xs, k.At K H xs → xs[i]? = some x) ∧ ∀ ys, l.At K H ys → ys[i]? = some y,
    fun i H => ∃ xs ys : List V, k.At K H xs ∧ l.At K H ys ∧ i = min xs.length ys.length⟩
theorem turn_zipN {P : Program} {w : World} {K : PySem.W.Frag} {elts : List Expr} {kk : Nat} {tpos : Pos} {k l : SK} {u u2 : Tok} {z TI TO i1 i2 : Addr} (S : ZipSep2 z TI TO i1 i2 (i1 :: k.ad) (i2 :: l.ad)) (hk1 : i1 ∉ k.ad) (hl2 : i2 ∉ l.ad) :
    Turn P w K (.Tuple elts kk tpos) (ItzN K k l) [z, TI, TO, i1, i2] z (fun i h => IsZip h z TI TO .none ∧ IsTupOf2 h TI (.ref i1) (.ref i2) ∧ (∃ x y, IsTupOf2 h TO x y) ∧ k.st u i1 i h ∧ l.st u2 i2 i h) where
  mem := by simp
  obj := fun i h st c hc => by
    obtain ⟨hz, hTI, ⟨x, y, hTO⟩, h1, h2⟩ := st
    have e' : c = z ∨ c = TI ∨ c = TO ∨ c = i1 ∨ c = i2 := by simpa using hc
    rcases e' with q | q | q | q | q
    · rw [q]; exact ⟨_, hz, fun v q => nomatch q⟩
    · rw [q]; exact ⟨_, hTI, fun v q => nomatch q⟩
    · rw [q]; exact ⟨_, hTO, fun v q => nomatch q⟩
    · rw [q]; exact SK.st_obj h1
    · rw [q]; exact SK.st_obj h2
  keep := fun i h h' st kp => by
    obtain ⟨hz, hTI, ⟨x, y, hTO⟩, h1, h2⟩ := st
    exact ⟨kp z (by simp) _ hz, kp TI (by simp) _ hTI, ⟨x, y, kp TO (by simp) _ hTO⟩, SK.st_at h1 fun o q => kp i1 (by simp) o q, SK.st_at h2 fun o q => kp i2 (by simp) o q⟩
  item := by
    intro X hP hw hK hc i pins s σ H E I hf st hg
    subst hP hw hK
    obtain ⟨hz, hTI, ⟨x0, y0, hTO⟩, h1, h2⟩ := st
    obtain ⟨xs, ys, x, y, hqx, hqy, hx, hy⟩ := hg
    have hh : X.A.in1.handled = none := show X.A.in1.handled = none from I.ok.hd hc
    obtain ⟨Pv, St, D1, st1, hPv, hSt⟩ := SK.draws I hqx h1 hk1 hh
    obtain ⟨Pv2, St2, D2, st2, hPv2, hSt2⟩ := SK.draws I hqy h2 hl2 hh
    have hi1 : i < xs.length := (List.getElem?_eq_some_iff.mp hx).1
    have hi2 : i < ys.length := (List.getElem?_eq_some_iff.mp hy).1
    have hzl : z < s.heap.objs.size := Heap.lt_size hz
    refine wpAny_pyNext_zipD2_item S D1 D2 hz hTI hTO st1 st2 hi1 hi2 fun v1 v2 h' tk p1 p2 z' TO' s1' s2' hT hsz hk => ?_
    obtain ⟨x', hx', ru⟩ := hPv _ _ p1
    rw [hx] at hx'
    cases hx'
    obtain ⟨y', hy', ru2⟩ := hPv2 _ _ p2
    rw [hy] at hy'
    cases hy'
    refine ⟨_, rfl, wpAny_letOwnedTupleGo_zip (s := { s with heap := h', toks := tk }) z' fun h'' z'' sb => ?_⟩
    have hT2 : h''.get? s.heap.objs.size = some { cls := .type "tuple", data := .seq #[v1, v2] } := (sb.2 _ (Nat.ne_of_gt hzl)).trans hT
    have new : ObjOk X.prog X.w (upd H s.heap.objs.size (prO [v1, v2] [x, y])) h'' s.heap.objs.size (prO [v1, v2] [x, y]) :=
      ⟨hT2, by show 2 ≤ sizeLine; decide, [v1, v2], .cons ru (.cons ru2 .nil), ⟨_, hT2, rfl, _, rfl⟩⟩
    have I1 : Inv X pins σ (upd H s.heap.objs.size (prO [v1, v2] [x, y])) { s with heap := h'', toks := tk } :=
      I.turnedNew (t' := tk) (ch := [z, TI, TO, i1, i2]) (fun c o hb q => (sb.2 c (fun q' => hb (by simp [q']))).trans (hk c o (fun q' => hb (by simp [q'])) (fun q' => hb (by simp [q'])) (fun q' => hb (by simp [q'])) (fun q' => hb (by simp [q'])) q)) hf (Nat.le_refl _) new
    refine ⟨.ref s.heap.objs.size, _, I1, rfl, ⟨_, x, y, _, rfl, I.hok.fresh (Nat.le_refl _), rfl, fun l hl => by rw [SK.inj I hl hqx]; exact hx, fun l hl => by rw [SK.inj I hl hqy]; exact hy⟩, ⟨z'', ?_, ⟨v1, v2, ?_⟩, ?_, ?_⟩, fun c hcm => ?_⟩
    · exact (sb.2 _ S.TIz).trans (hk _ _ S.TIz S.TITO S.TIi1 S.TIi2 hTI)
    · exact (sb.2 _ S.TOz).trans TO'
    · exact SK.st_at (hSt _ _ s1') fun o q => (sb.2 _ (Ne.symm S.zi1)).trans q
    · exact SK.st_at (hSt2 _ _ s2') fun o q => (sb.2 _ (Ne.symm S.zi2)).trans q
    · have hlt : c < s.heap.objs.size := by
        have e' : c = z ∨ c = TI ∨ c = TO ∨ c = i1 ∨ c = i2 := by simpa using hcm
        rcases e' with q | q | q | q | q
        · rw [q]; exact hzl
        · rw [q]; exact Heap.lt_size hTI
        · rw [q]; exact Heap.lt_size hTO
        · rw [q]; obtain ⟨_, e1, _⟩ := SK.st_obj h1; exact Heap.lt_size e1
        · rw [q]; obtain ⟨_, e1, _⟩ := SK.st_obj h2; exact Heap.lt_size e1
      rw [upd_ne (Nat.ne_of_lt hlt)]
      exact (hf c hcm).1
  done := by
    intro X hP hw hK hc i pins s σ H E I hf st hg
    subst hP hw hK
    obtain ⟨hz, hTI, ⟨x0, y0, hTO⟩, h1, h2⟩ := st
    obtain ⟨xs, ys, hqx, hqy, hend⟩ := hg
    have hh : X.A.in1.handled = none := show X.A.in1.handled = none from I.ok.hd hc
    obtain ⟨Pv, St, D1, st1, hPv, hSt⟩ := SK.draws I hqx h1 hk1 hh
    obtain ⟨Pv2, St2, D2, st2, hPv2, hSt2⟩ := SK.draws I hqy h2 hl2 hh
    exact wpAny_pyNext_zipD2_end S D1 D2 hz hTI hTO st1 st2 (by omega) (by omega) (by omega) fun h' tk hk => ⟨rfl, I.turnedL (t' := tk) (ch := [z, TI, TO, i1, i2]) (fun c o hb q =>
      hk c o (fun q' => hb (by simp [q'])) (fun q' => hb (by simp [q'])) (fun q' => hb (by simp [q'])) (fun q' => hb (by simp [q'])) q) hf⟩
  self := fun A i s Q E st h => wpAny_pyIter_zip st.1 h
def iZipN (K : PySem.W.Frag) (ta : TA) : TI := fun σ H R => ta σ H fun vs H1 => ∃ k l xs ys, vs = [SK.v k, SK.v l] ∧ SK.At K k H1 xs ∧ SK.At K l H1 ys ∧ R (ItzN K k l) H1
theorem pi_zipN {X : Cx} {e e2 : Expr} {ta : TA} {p pos tpos : Pos} {elts : List Expr} {kk : Nat} (hg : Gl X "zip") (hm : X.mg "zip" = none) (ha : PA X [e, e2] ta)
    (hs : starEach [e, e2] X.env = (false, eval e X.env) :: starEach [e2] X.env) (hpl : (backTo pos (starEach [e2] X.env)).any (·.1) = false) :
    PI X (.Tuple elts kk tpos) (.Call (.Name "zip" p) [e, e2] [] pos) (iZipN X.K ta) := by
  refine ⟨fun pins s σ H R I h => ?_⟩
  refine Call_ (ld_blt I hg hm PyProof.Rows.boot_zip (PyProof.Rows.callWith_type1 (thn (ha.run pos pins s σ H _ I h) fun us s1 ⟨vs, H1, I1, r1, q1⟩ => ?_) hs hpl))
  obtain ⟨k, l, xs, ys, ex, hqx, hqy, q⟩ := q1
  subst ex
  cases r1 with
  | cons r rr =>
    cases rr with
    | cons r' rr =>
      cases rr
      obtain ⟨u, rfl⟩ := SK.rel r
      obtain ⟨u2, rfl⟩ := SK.rel r'
      obtain ⟨Hh, B, hB⟩ := SK.begins (u := u) I1 hqx
      obtain ⟨Hh2, B2, hB2⟩ := SK.begins (u := u2) I1 hqy
      have hlt := SK.ad_lt I1 hqx
      have hlt2 := SK.ad_lt I1 hqy
      refine zip_begins2 B B2 hB hB2 fun h' hz hTI hTO h1 h2 hsz hk => wpAny_pyIter_zip hz ?_
      have I2 : Inv X pins σ H1 { s1 with heap := h' } := I1.kept (t' := s1.toks) hk
      refine ⟨s1.heap.objs.size + 4, [s1.heap.objs.size + 4, s1.heap.objs.size + 2, s1.heap.objs.size + 3, s1.heap.objs.size, s1.heap.objs.size + 1], _, _, H1, rfl, I2, turn_zipN (u := u) (u2 := u2) (zip_sep2 hlt hlt2) (fun hb => Nat.lt_irrefl _ (hlt _ hb)) (fun hb => Nat.lt_irrefl _ (Nat.lt_trans (Nat.lt_succ_self _) (hlt2 _ hb))), ⟨hz, hTI, ⟨_, _, hTO⟩, SK.st0 h1, SK.st0 h2⟩, fun c hcm => ?_, q⟩
      have e' : c = s1.heap.objs.size + 4 ∨ c = s1.heap.objs.size + 2 ∨ c = s1.heap.objs.size + 3 ∨ c = s1.heap.objs.size ∨ c = s1.heap.objs.size + 1 := by simpa using hcm
      have hle : s1.heap.objs.size ≤ c := by
        rcases e' with z | z | z | z | z
        · rw [z]; exact Nat.le_add_right _ _
        · rw [z]; exact Nat.le_add_right _ _
        · rw [z]; exact Nat.le_add_right _ _
        · rw [z]; exact Nat.le_refl _
        · rw [z]; exact Nat.le_add_right _ _
      exact I1.fpOk hle (I1.hok.fresh hle)
def ItzN3 (K : PySem.W.Frag) (k l m : SK) : L2.It :=
  ⟨fun i H => ∃ (xs ys zs : List V) (x y z : V), k.At K H xs ∧ l.At K H ys ∧ m.At K H zs ∧ xs[i]? = some x ∧ ys[i]? = some y ∧ zs[i]? = some z,
    fun i H v H' => ∃ T x y z us, v = .ref T ∧ H T = none ∧ H' = upd H T (prO us [x, y, z]) ∧ (∀ xs, k.At K H xs → xs[i]? = some x) ∧ (∀ ys, l.At K H ys → ys[i]? = some y) ∧ ∀ zs, m.At K H zs → zs[i]? = some z,
    fun i H => ∃ xs ys zs : List V, k.At K H xs ∧ l.At K H ys ∧ m.At K H zs ∧ i = min (min xs.length ys.length) zs.length⟩
theorem turn_zipN3 {P : Program} {w : World} {K : PySem.W.Frag} {elts : List Expr} {kk : Nat} {tpos : Pos} {k l m : SK} {u u2 u3 : Tok} {z TI TO i1 i2 i3 : Addr} (S : ZipSep3 z TI TO i1 i2 i3 (i1 :: k.ad) (i2 :: l.ad) (i3 :: m.ad)) (hk1 : i1 ∉ k.ad) (hl2 : i2 ∉ l.ad) (hm3 : i3 ∉ m.ad) :
    Turn P w K (.Tuple elts kk tpos) (ItzN3 K k l m) [z, TI, TO, i1, i2, i3] z (fun i h => IsZip h z TI TO .none ∧ IsTupOf3 h TI (.ref i1) (.ref i2) (.ref i3) ∧ (∃ x y x3, IsTupOf3 h TO x y x3) ∧ k.st u i1 i h ∧ l.st u2 i2 i h ∧ m.st u3 i3 i h) where
  mem := by simp
  obj := fun i h st c hc => by
    obtain ⟨hz, hTI, ⟨x, y, x3, hTO⟩, h1, h2, h3⟩ := st
    have e' : c = z ∨ c = TI ∨ c = TO ∨ c = i1 ∨ c = i2 ∨ c = i3 := by simpa using hc
    rcases e' with q | q | q | q | q | q
    · rw [q]; exact ⟨_, hz, fun v q => nomatch q⟩
    · rw [q]; exact ⟨_, hTI, fun v q => nomatch q⟩
    · rw [q]; exact ⟨_, hTO, fun v q => nomatch q⟩
    · rw [q]; exact SK.st_obj h1
    · rw [q]; exact SK.st_obj h2
    · rw [q]; exact SK.st_obj h3
  keep := fun i h h' st kp => by
    obtain ⟨hz, hTI, ⟨x, y, x3, hTO⟩, h1, h2, h3⟩ := st
    exact ⟨kp z (by simp) _ hz, kp TI (by simp) _ hTI, ⟨x, y, x3, kp TO (by simp) _ hTO⟩, SK.st_at h1 fun o q => kp i1 (by simp) o q, SK.st_at h2 fun o q => kp i2 (by simp) o q, SK.st_at h3 fun o q => kp i3 (by simp) o q⟩
  item := by
    intro X hP hw hK hc i pins s σ H E I hf st hg
    subst hP hw hK
    obtain ⟨hz, hTI, ⟨x0, y0, z0, hTO⟩, h1, h2, h3⟩ := st
    obtain ⟨xs, ys, zs, x, y, z3, hqx, hqy, hqz, hx, hy, hz3⟩ := hg
    have hh : X.A.in1.handled = none := show X.A.in1.handled = none from I.ok.hd hc
    obtain ⟨Pv, St, D1, st1, hPv, hSt⟩ := SK.draws I hqx h1 hk1 hh
    obtain ⟨Pv2, St2, D2, st2, hPv2, hSt2⟩ := SK.draws I hqy h2 hl2 hh
    obtain ⟨Pv3, St3, D3, st3, hPv3, hSt3⟩ := SK.draws I hqz h3 hm3 hh
    have hi1 : i < xs.length := (List.getElem?_eq_some_iff.mp hx).1
    have hi2 : i < ys.length := (List.getElem?_eq_some_iff.mp hy).1
    have hi3 : i < zs.length := (List.getElem?_eq_some_iff.mp hz3).1
    have hzl : z < s.heap.objs.size := Heap.lt_size hz
    refine wpAny_pyNext_zipD3_item S D1 D2 D3 hz hTI hTO st1 st2 st3 hi1 hi2 hi3 fun v1 v2 v3 h' tk p1 p2 p3 z' TO' s1' s2' s3' hT hsz hk => ?_
    obtain ⟨x', hx', ru⟩ := hPv _ _ p1
    rw [hx] at hx'
    cases hx'
    obtain ⟨y', hy', ru2⟩ := hPv2 _ _ p2
    rw [hy] at hy'
    cases hy'
    obtain ⟨z'', hz'', ru3⟩ := hPv3 _ _ p3
    rw [hz3] at hz''
    cases hz''
    refine ⟨_, rfl, wpAny_letOwnedTupleGo_zip (s := { s with heap := h', toks := tk }) z' fun h'' z'' sb => ?_⟩
    have hT2 : h''.get? s.heap.objs.size = some { cls := .type "tuple", data := .seq #[v1, v2, v3] } := (sb.2 _ (Nat.ne_of_gt hzl)).trans hT
    have new : ObjOk X.prog X.w (upd H s.heap.objs.size (prO [v1, v2, v3] [x, y, z3])) h'' s.heap.objs.size (prO [v1, v2, v3] [x, y, z3]) :=
      ⟨hT2, by show 3 ≤ sizeLine; decide, [v1, v2, v3], .cons ru (.cons ru2 (.cons ru3 .nil)), ⟨_, hT2, rfl, _, rfl⟩⟩
    have I1 : Inv X pins σ (upd H s.heap.objs.size (prO [v1, v2, v3] [x, y, z3])) { s with heap := h'', toks := tk } :=
      I.turnedNew (t' := tk) (ch := [z, TI, TO, i1, i2, i3]) (fun c o hb q => (sb.2 c (fun q' => hb (by simp [q']))).trans (hk c o (fun q' => hb (by simp [q'])) (fun q' => hb (by simp [q'])) (fun q' => hb (by simp [q'])) (fun q' => hb (by simp [q'])) (fun q' => hb (by simp [q'])) q)) hf (Nat.le_refl _) new
    refine ⟨.ref s.heap.objs.size, _, I1, rfl, ⟨_, x, y, z3, _, rfl, I.hok.fresh (Nat.le_refl _), rfl, fun l hl => by rw [SK.inj I hl hqx]; exact hx, fun l hl => by rw [SK.inj I hl hqy]; exact hy, fun l hl => by rw [SK.inj I hl hqz]; exact hz3⟩, ⟨z'', ?_, ⟨v1, v2, v3, ?_⟩, ?_, ?_, ?_⟩, fun c hcm => ?_⟩
    · exact (sb.2 _ S.TIz).trans (hk _ _ S.TIz S.TITO S.TIi1 S.TIi2 S.TIi3 hTI)
    · exact (sb.2 _ S.TOz).trans TO'
    · exact SK.st_at (hSt _ _ s1') fun o q => (sb.2 _ (Ne.symm S.zi1)).trans q
    · exact SK.st_at (hSt2 _ _ s2') fun o q => (sb.2 _ (Ne.symm S.zi2)).trans q
    · exact SK.st_at (hSt3 _ _ s3') fun o q => (sb.2 _ (Ne.symm S.zi3)).trans q
    · have hlt : c < s.heap.objs.size := by
        have e' : c = z ∨ c = TI ∨ c = TO ∨ c = i1 ∨ c = i2 ∨ c = i3 := by simpa using hcm
        rcases e' with q | q | q | q | q | q
        · rw [q]; exact hzl
        · rw [q]; exact Heap.lt_size hTI
        · rw [q]; exact Heap.lt_size hTO
        · rw [q]; obtain ⟨_, e1, _⟩ := SK.st_obj h1; exact Heap.lt_size e1
        · rw [q]; obtain ⟨_, e1, _⟩ := SK.st_obj h2; exact Heap.lt_size e1
        · rw [q]; obtain ⟨_, e1, _⟩ := SK.st_obj h3; exact Heap.lt_size e1
      rw [upd_ne (Nat.ne_of_lt hlt)]
      exact (hf c hcm).1
  done := by
    intro X hP hw hK hc i pins s σ H E I hf st hg
    subst hP hw hK
    obtain ⟨hz, hTI, ⟨x0, y0, z0, hTO⟩, h1, h2, h3⟩ := st
    obtain ⟨xs, ys, zs, hqx, hqy, hqz, hend⟩ := hg
    have hh : X.A.in1.handled = none := show X.A.in1.handled = none from I.ok.hd hc
    obtain ⟨Pv, St, D1, st1, hPv, hSt⟩ := SK.draws I hqx h1 hk1 hh
    obtain ⟨Pv2, St2, D2, st2, hPv2, hSt2⟩ := SK.draws I hqy h2 hl2 hh
    obtain ⟨Pv3, St3, D3, st3, hPv3, hSt3⟩ := SK.draws I hqz h3 hm3 hh
    exact wpAny_pyNext_zipD3_end S D1 D2 D3 hz hTI hTO st1 st2 st3 (by omega) (by omega) (by omega) (by omega) fun h' tk hk => ⟨rfl, I.turnedL (t' := tk) (ch := [z, TI, TO, i1, i2, i3]) (fun c o hb q =>
      hk c o (fun q' => hb (by simp [q'])) (fun q' => hb (by simp [q'])) (fun q' => hb (by simp [q'])) (fun q' => hb (by simp [q'])) (fun q' => hb (by simp [q'])) q) hf⟩
  self := fun A i s Q E st h => wpAny_pyIter_zip st.1 h
def iZipN3 (K : PySem.W.Frag) (ta : TA) : TI := fun σ H R => ta σ H fun vs H1 => ∃ k l m xs ys zs, vs = [SK.v k, SK.v l, SK.v m] ∧ SK.At K k H1 xs ∧ SK.At K l H1 ys ∧ SK.At K m H1 zs ∧ R (ItzN3 K k l m) H1
theorem pi_zipN3 {X : Cx} {e e2 e3 : Expr} {ta : TA} {p pos tpos : Pos} {elts : List Expr} {kk : Nat} (hg : Gl X "zip") (hm : X.mg "zip" = none) (ha : PA X [e, e2, e3] ta)
    (hs : starEach [e, e2, e3] X.env = (false, eval e X.env) :: starEach [e2, e3] X.env) (hpl : (backTo pos (starEach [e2, e3] X.env)).any (·.1) = false) :
    PI X (.Tuple elts kk tpos) (.Call (.Name "zip" p) [e, e2, e3] [] pos) (iZipN3 X.K ta) := by
  refine ⟨fun pins s σ H R I h => ?_⟩
  refine Call_ (ld_blt I hg hm PyProof.Rows.boot_zip (PyProof.Rows.callWith_type1 (thn (ha.run pos pins s σ H _ I h) fun us s1 ⟨vs, H1, I1, r1, q1⟩ => ?_) hs hpl))
  obtain ⟨k, l, m, xs, ys, zs, ex, hqx, hqy, hqz, q⟩ := q1
  subst ex
  cases r1 with
  | cons r rr =>
    cases rr with
    | cons r' rr =>
      cases rr with
      | cons r'' rr =>
        cases rr
        obtain ⟨u, rfl⟩ := SK.rel r
        obtain ⟨u2, rfl⟩ := SK.rel r'
        obtain ⟨u3, rfl⟩ := SK.rel r''
        obtain ⟨Hh, B, hB⟩ := SK.begins (u := u) I1 hqx
        obtain ⟨Hh2, B2, hB2⟩ := SK.begins (u := u2) I1 hqy
        obtain ⟨Hh3, B3, hB3⟩ := SK.begins (u := u3) I1 hqz
        have hlt := SK.ad_lt I1 hqx
        have hlt2 := SK.ad_lt I1 hqy
        have hlt3 := SK.ad_lt I1 hqz
        refine zip_begins3 B B2 B3 hB hB2 hB3 fun h' hz hTI hTO h1 h2 h3 hsz hk => wpAny_pyIter_zip hz ?_
        have I2 : Inv X pins σ H1 { s1 with heap := h' } := I1.kept (t' := s1.toks) hk
        refine ⟨s1.heap.objs.size + 5, [s1.heap.objs.size + 5, s1.heap.objs.size + 3, s1.heap.objs.size + 4, s1.heap.objs.size, s1.heap.objs.size + 1, s1.heap.objs.size + 2], _, _, H1, rfl, I2, turn_zipN3 (u := u) (u2 := u2) (u3 := u3) (zip_sep3 hlt hlt2 hlt3) (fun hb => Nat.lt_irrefl _ (hlt _ hb)) (fun hb => Nat.lt_irrefl _ (Nat.lt_trans (Nat.lt_succ_self _) (hlt2 _ hb))) (fun hb => Nat.lt_irrefl _ (Nat.lt_of_le_of_lt (Nat.le_add_right _ _) (hlt3 _ hb))), ⟨hz, hTI, ⟨_, _, _, hTO⟩, SK.st0 h1, SK.st0 h2, SK.st0 h3⟩, fun c hcm => ?_, q⟩
        have e' : c = s1.heap.objs.size + 5 ∨ c = s1.heap.objs.size + 3 ∨ c = s1.heap.objs.size + 4 ∨ c = s1.heap.objs.size ∨ c = s1.heap.objs.size + 1 ∨ c = s1.heap.objs.size + 2 := by simpa using hcm
        have hle : s1.heap.objs.size ≤ c := by
          rcases e' with z | z | z | z | z | z
          · rw [z]; exact Nat.le_add_right _ _
          · rw [z]; exact Nat.le_add_right _ _
          · rw [z]; exact Nat.le_add_right _ _
          · rw [z]; exact Nat.le_refl _
          · rw [z]; exact Nat.le_add_right _ _
          · rw [z]; exact Nat.le_add_right _ _
        exact I1.fpOk hle (I1.hok.fresh hle)
def kOf (w : Wo) (F : Hp) (k : SK) (vs : List V) (ds : List D) : Prop := match k with
  | .l a => SqL w.K F a vs ∧ Reps w F vs ds
  | .t a => SqN w.K F a vs ∧ Reps w F vs ds
  | .s z => PyData.strOk z = true ∧ vs = (z.cps.toList.map fun c => V.str ⟨#[c]⟩) ∧ ds = z.cps.toList.map fun c => D.str ⟨#[c]⟩
theorem kOf.at {w : Wo} {F H : Hp} {k : SK} {vs : List V} {ds : List D} (h : kOf w F k vs ds) (s : Sub F H) : k.At w.K H vs := by
  cases k with
  | l a => exact s.sqL h.1
  | t a => exact (s.sqN h.1).sqT
  | s z => exact h.2.1
theorem kOf.reps {w : Wo} {F : Hp} {k : SK} {vs : List V} {ds : List D} (h : kOf w F k vs ds) : Reps w F vs ds := by
  cases k with
  | l a => exact h.2
  | t a => exact h.2
  | s z =>
    obtain ⟨h1, rfl, rfl⟩ := h
    have : ∀ cs : List Nat, (∀ c ∈ cs, c ∈ z.cps.toList) → Reps w F (cs.map fun c => V.str ⟨#[c]⟩) (cs.map fun c => D.str ⟨#[c]⟩) := fun cs hc => by
      induction cs with
      | nil => exact .nil
      | cons c cs ih =>
        refine .cons (.str _ (strOk_sub h1 fun b hb => ?_) (by show 1 ≤ limN; decide)) (ih fun x hx => hc x (List.mem_cons_of_mem _ hx))
        obtain rfl : b = c := by simpa using hb
        exact hc b List.mem_cons_self
    exact this _ fun c hc => hc
theorem kOf.mono {w : Wo} {F F' : Hp} {k : SK} {vs : List V} {ds : List D} (h : kOf w F k vs ds) (s : Sub F F') : kOf w F' k vs ds := by
  cases k with
  | l a => exact ⟨s.sqL h.1, h.2.mono s⟩
  | t a => exact ⟨s.sqN h.1, h.2.mono s⟩
  | s z => exact h
theorem kOf_of {w : Wo} {F : Hp} {v : V} {d : D} {ds : List D} (r : Rep w F v d) (e : itemsD d = some ds) : ∃ k vs, v = SK.v k ∧ kOf w F k vs ds := by
  cases r with
  | lst h r hl => cases e; exact ⟨.l _, _, rfl, h, r⟩
  | tup h r hl => cases e; exact ⟨.t _, _, rfl, h, r⟩
  | str z h hl => cases e; exact ⟨.s z, _, rfl, h, rfl, rfl⟩
  | _ => cases e
theorem rep_pair {w : Wo} {F H : Hp} {T : Addr} {us : List Value} {x y : V} {d e : D} (hT : F T = none) (h1 : Rep w F x d) (h2 : Rep w F y e) : Rep w (upd F T (prO us [x, y])) (.ref T) (.tup [d, e]) :=
  .tup (.inl ⟨_, upd_same, rfl⟩) ((Reps.cons h1 (.cons h2 .nil)).mono (sub_upd hT)) (by show 2 ≤ limN; decide)
theorem enumL_get : ∀ {ds : List D} {n i : Nat}, (enumL n ds)[i]? = ds[i]?.map fun d => .tup [.int ((n + i : Nat) : Int), d]
  | [], _, _ => by simp [enumL]
  | d :: ds, n, 0 => by simp [enumL]
  | d :: ds, n, i + 1 => by
    have := enumL_get (ds := ds) (n := n + 1) (i := i)
    simp only [enumL, List.getElem?_cons_succ]
    rw [this]
    have e : n + 1 + i = n + (i + 1) := by omega
    rw [e]
theorem enumL_len : ∀ {ds : List D} {n : Nat}, (enumL n ds).length = ds.length
  | [], _ => rfl
  | d :: ds, n => by simp [enumL, enumL_len]
theorem zipL_get : ∀ {xs ys : List D} {i : Nat} {d : D}, (zipL xs ys)[i]? = some d → ∃ x y, xs[i]? = some x ∧ ys[i]? = some y ∧ d = .tup [x, y]
  | [], _, _, _, h => by simp [zipL] at h
  | _ :: _, [], _, _, h => by simp [zipL] at h
  | x :: xs, y :: ys, 0, d, h => by simp [zipL] at h; exact ⟨x, y, rfl, rfl, h.symm⟩
  | x :: xs, y :: ys, i + 1, d, h => by
    obtain ⟨a, b, h1, h2, h3⟩ := zipL_get (xs := xs) (ys := ys) (i := i) (by simpa [zipL] using h)
    exact ⟨a, b, by simpa using h1, by simpa using h2, h3⟩
theorem zipL_len : ∀ {xs ys : List D}, (zipL xs ys).length = min xs.length ys.length
  | [], _ => by simp [zipL]
  | _ :: _, [] => by simp [zipL]
  | x :: xs, y :: ys => by simp [zipL, zipL_len]
theorem walkD_enum {w : Wo} {F0 : Hp} {k : SK} {vs : List V} {ds : List D} (h : kOf w F0 k vs ds) : WalkD w F0 (IteN w.K k) (enumL 0 ds) := fun i F H s1 s2 => by
  have q := h.at (s1.trans s2)
  have r := h.reps
  refine ⟨fun d e => ?_, fun e => ⟨vs, q, by rw [r.length, e, enumL_len]⟩⟩
  rw [enumL_get, Option.map_eq_some_iff] at e
  obtain ⟨d0, e, rfl⟩ := e
  obtain ⟨x, e1, r1⟩ := r.get e
  refine ⟨⟨vs, x, q, e1⟩, fun v H' y => ?_⟩
  obtain ⟨T, x', us, rfl, hT, rfl, hx⟩ := y
  have := hx vs q
  rw [e1] at this
  cases this
  refine ⟨upd F T (prO us [.int (i : Nat), x]), .newF s2 hT, ?_⟩
  have e0 : ((0 + i : Nat) : Int) = ((i : Nat) : Int) := by omega
  rw [e0]
  exact rep_pair (H := H) (s2.none hT) (.int _) (r1.mono s1)
theorem walkD_zip {w : Wo} {F0 : Hp} {k l : SK} {vs us : List V} {ds es : List D} (h : kOf w F0 k vs ds) (h2 : kOf w F0 l us es) : WalkD w F0 (ItzN w.K k l) (zipL ds es) := fun i F H s1 s2 => by
  have q := h.at (s1.trans s2)
  have q2 := h2.at (s1.trans s2)
  have r := h.reps
  have r2 := h2.reps
  refine ⟨fun d e => ?_, fun e => ⟨vs, us, q, q2, by rw [r.length, r2.length, e, zipL_len]⟩⟩
  obtain ⟨d1, d2, e1, e2, rfl⟩ := zipL_get e
  obtain ⟨x, f1, g1⟩ := r.get e1
  obtain ⟨y, f2, g2⟩ := r2.get e2
  refine ⟨⟨vs, us, x, y, q, q2, f1, f2⟩, fun v H' yy => ?_⟩
  obtain ⟨T, x', y', us', rfl, hT, rfl, hx, hy⟩ := yy
  have := hx vs q
  rw [f1] at this
  cases this
  have := hy us q2
  rw [f2] at this
  cases this
  exact ⟨upd F T (prO us' [x, y]), .newF s2 hT, rep_pair (H := H) (s2.none hT) (g1.mono s1) (g2.mono s1)⟩
theorem zipL3_get : ∀ {xs ys zs : List D} {i : Nat} {d : D}, (zipL3 xs ys zs)[i]? = some d → ∃ x y z, xs[i]? = some x ∧ ys[i]? = some y ∧ zs[i]? = some z ∧ d = .tup [x, y, z]
  | [], _, _, _, _, h => by simp [zipL3] at h
  | _ :: _, [], _, _, _, h => by simp [zipL3] at h
  | _ :: _, _ :: _, [], _, _, h => by simp [zipL3] at h
  | x :: xs, y :: ys, z :: zs, 0, d, h => by simp [zipL3] at h; exact ⟨x, y, z, rfl, rfl, rfl, h.symm⟩
  | x :: xs, y :: ys, z :: zs, i + 1, d, h => by
    obtain ⟨a, b, c, h1, h2, h3, h4⟩ := zipL3_get (xs := xs) (ys := ys) (zs := zs) (i := i) (by simpa [zipL3] using h)
    exact ⟨a, b, c, by simpa using h1, by simpa using h2, by simpa using h3, h4⟩
theorem zipL3_len : ∀ {xs ys zs : List D}, (zipL3 xs ys zs).length = min (min xs.length ys.length) zs.length
  | [], _, _ => by simp [zipL3]
  | _ :: _, [], _ => by simp [zipL3]
  | _ :: _, _ :: _, [] => by simp [zipL3]
  | x :: xs, y :: ys, z :: zs => by simp [zipL3, zipL3_len]
theorem rep_trip {w : Wo} {F H : Hp} {T : Addr} {us : List Value} {x y z : V} {d e f : D} (hT : F T = none) (h1 : Rep w F x d) (h2 : Rep w F y e) (h3 : Rep w F z f) : Rep w (upd F T (prO us [x, y, z])) (.ref T) (.tup [d, e, f]) :=
  .tup (.inl ⟨_, upd_same, rfl⟩) ((Reps.cons h1 (.cons h2 (.cons h3 .nil))).mono (sub_upd hT)) (by show 3 ≤ limN; decide)
theorem walkD_zip3 {w : Wo} {F0 : Hp} {k l m : SK} {vs us ws : List V} {ds es fs : List D} (h : kOf w F0 k vs ds) (h2 : kOf w F0 l us es) (h3 : kOf w F0 m ws fs) : WalkD w F0 (ItzN3 w.K k l m) (zipL3 ds es fs) := fun i F H s1 s2 => by
  have q := h.at (s1.trans s2)
  have q2 := h2.at (s1.trans s2)
  have q3 := h3.at (s1.trans s2)
  have r := h.reps
  have r2 := h2.reps
  have r3 := h3.reps
  refine ⟨fun d e => ?_, fun e => ⟨vs, us, ws, q, q2, q3, by rw [r.length, r2.length, r3.length, e, zipL3_len]⟩⟩
  obtain ⟨d1, d2, d3, e1, e2, e3, rfl⟩ := zipL3_get e
  obtain ⟨x, f1, g1⟩ := r.get e1
  obtain ⟨y, f2, g2⟩ := r2.get e2
  obtain ⟨z, f3, g3⟩ := r3.get e3
  refine ⟨⟨vs, us, ws, x, y, z, q, q2, q3, f1, f2, f3⟩, fun v H' yy => ?_⟩
  obtain ⟨T, x', y', z', us', rfl, hT, rfl, hx, hy, hz⟩ := yy
  have := hx vs q
  rw [f1] at this
  cases this
  have := hy us q2
  rw [f2] at this
  cases this
  have := hz ws q3
  rw [f3] at this
  cases this
  exact ⟨upd F T (prO us' [x, y, z]), .newF s2 hT, rep_trip (H := H) (s2.none hT) (g1.mono s1) (g2.mono s1) (g3.mono s1)⟩
section
variable {E : En} {X : Cx} {cx : Cxs} {W : WX} {σ : L2.St} {H : Hp}
theorem enum_ok (hw : E.w.K = X.K) {e : Ex} {R : L2.It → Hp → Prop} (h : tI E cx W (.enum (.seq e)) σ H R) : iEnumN X.K (tCons (tE E cx W e) tNil) σ H R := by
  obtain ⟨s, F, own, rs, p⟩ := h
  have p' : Post E.w cx W e.noio σ F H own (((evE E.gl E.call e s).bind fun x s => IL.R.of (itemsD x.1) s).bind fun xs s => .ok (enumL 0 xs) s) (fun ds _ F' H' _ => ∀ J, WalkD E.w F' J ds → R J H') := p
  rw [IL.R.bind_assoc] at p'
  refine ⟨s, F, own, rs, p'.bnd (n2 := true) (fun z => ⟨z, rfl⟩) fun x s1 F1 H1 own1 f1 rs1 k1 vx hx => ?_⟩
  obtain ⟨F2, sf, f2, rs2, hr⟩ := hx.frz f1 rs1
  have p2 := k1 F2 f2
  cases e2 : itemsD x.1 with
  | none => rw [e2] at p2; exact p2.elim
  | some ds =>
    rw [e2] at p2
    obtain ⟨k, vs, rfl, hk⟩ := kOf_of hr e2
    exact ⟨k, vs, rfl, hw ▸ hk.at rs2.fh, hw ▸ Post.fin (a := enumL 0 ds) p2 .refl rs2 _ (walkD_enum hk)⟩
theorem zip_ok (hw : E.w.K = X.K) {a b : Ex} {R : L2.It → Hp → Prop} (h : tI E cx W (.zip (.seq a) (.seq b)) σ H R) : iZipN X.K (tCons (tE E cx W a) (tCons (tE E cx W b) tNil)) σ H R := by
  obtain ⟨s, F, own, rs, p⟩ := h
  have p' : Post E.w cx W (a.noio && b.noio) σ F H own (((evE E.gl E.call a s).bind fun x s => IL.R.of (itemsD x.1) s).bind fun xs s => ((evE E.gl E.call b s).bind fun x s => IL.R.of (itemsD x.1) s).bind fun ys s => .ok (zipL xs ys) s) (fun ds _ F' H' _ => ∀ J, WalkD E.w F' J ds → R J H') := p
  rw [IL.R.bind_assoc] at p'
  refine ⟨s, F, own, rs, p'.bnd (n2 := b.noio) and_nz fun x s1 F1 H1 own1 f1 rs1 k1 vx hx => ?_⟩
  obtain ⟨F2, sf, f2, rs2, hr⟩ := hx.frz f1 rs1
  have p2 := k1 F2 f2
  cases e2 : itemsD x.1 with
  | none => rw [e2] at p2; exact p2.elim
  | some ds =>
    rw [e2] at p2
    obtain ⟨k, vs, rfl, hk⟩ := kOf_of hr e2
    have p3 : Post E.w cx W b.noio σ F2 H1 own1 ((evE E.gl E.call b s1).bind fun x s => (IL.R.of (itemsD x.1) s).bind fun ys s => .ok (zipL ds ys) s) (fun ds _ F' H' _ => ∀ J, WalkD E.w F' J ds → R J H') := by
      rw [← IL.R.bind_assoc]; exact p2
    refine ⟨s1, F2, own1, rs2, p3.bnd (n2 := true) (fun z => ⟨z, rfl⟩) fun y s3 F3 H3 own3 f3 rs3 k3 vy hy => ?_⟩
    obtain ⟨F4, sf4, f4, rs4, hr4⟩ := hy.frz f3 rs3
    have p4 := k3 F4 f4
    cases e4 : itemsD y.1 with
    | none => rw [e4] at p4; exact p4.elim
    | some es =>
      rw [e4] at p4
      obtain ⟨l, us, rfl, hl⟩ := kOf_of hr4 e4
      have hk4 := hk.mono f4.ff
      exact ⟨k, l, vs, us, rfl, hw ▸ hk4.at rs4.fh, hw ▸ hl.at rs4.fh, hw ▸ Post.fin (a := zipL ds es) p4 .refl rs4 _ (walkD_zip hk4 hl)⟩
theorem zip3_ok (hw : E.w.K = X.K) {a b c : Ex} {R : L2.It → Hp → Prop} (h : tI E cx W (.zip3 a b c) σ H R) : iZipN3 X.K (tCons (tE E cx W a) (tCons (tE E cx W b) (tCons (tE E cx W c) tNil))) σ H R := by
  obtain ⟨s, F, own, rs, p⟩ := h
  have p' : Post E.w cx W (a.noio && b.noio && c.noio) σ F H own ((evE E.gl E.call a s).bind fun x s => (IL.R.of (itemsD x.1) s).bind fun xs s => (evE E.gl E.call b s).bind fun y s => (IL.R.of (itemsD y.1) s).bind fun ys s => (evE E.gl E.call c s).bind fun z s => (IL.R.of (itemsD z.1) s).bind fun zs s => .ok (zipL3 xs ys zs) s) (fun ds _ F' H' _ => ∀ J, WalkD E.w F' J ds → R J H') := p
  refine ⟨s, F, own, rs, p'.bnd (n2 := b.noio && c.noio) (fun z => by simp only [Bool.and_eq_true] at z ⊢; exact ⟨z.1.1, z.1.2, z.2⟩) fun x s1 F1 H1 own1 f1 rs1 k1 vx hx => ?_⟩
  obtain ⟨F2, sf, f2, rs2, hr⟩ := hx.frz f1 rs1
  have p2 := k1 F2 f2
  cases e2 : itemsD x.1 with
  | none => rw [e2] at p2; exact p2.elim
  | some ds =>
    rw [e2] at p2
    obtain ⟨k, vs, rfl, hk⟩ := kOf_of hr e2
    have p3 : Post E.w cx W (b.noio && c.noio) σ F2 H1 own1 ((evE E.gl E.call b s1).bind fun y s => (IL.R.of (itemsD y.1) s).bind fun ys s => (evE E.gl E.call c s).bind fun z s => (IL.R.of (itemsD z.1) s).bind fun zs s => .ok (zipL3 ds ys zs) s) (fun ds _ F' H' _ => ∀ J, WalkD E.w F' J ds → R J H') := p2
    refine ⟨s1, F2, own1, rs2, p3.bnd (n2 := c.noio) and_nz fun y s3 F3 H3 own3 f3 rs3 k3 vy hy => ?_⟩
    obtain ⟨F4, sf4, f4, rs4, hr4⟩ := hy.frz f3 rs3
    have p4 := k3 F4 f4
    cases e4 : itemsD y.1 with
    | none => rw [e4] at p4; exact p4.elim
    | some es =>
      rw [e4] at p4
      obtain ⟨l, us, rfl, hl⟩ := kOf_of hr4 e4
      have hk4 := hk.mono f4.ff
      have p5 : Post E.w cx W c.noio σ F4 H3 own3 ((evE E.gl E.call c s3).bind fun z s => (IL.R.of (itemsD z.1) s).bind fun zs s => .ok (zipL3 ds es zs) s) (fun ds _ F' H' _ => ∀ J, WalkD E.w F' J ds → R J H') := p4
      refine ⟨s3, F4, own3, rs4, p5.bnd (n2 := true) (fun z => ⟨z, rfl⟩) fun z s5 F5 H5 own5 f5 rs5 k5 vz hz => ?_⟩
      obtain ⟨F6, sf6, f6, rs6, hr6⟩ := hz.frz f5 rs5
      have p6 := k5 F6 f6
      cases e6 : itemsD z.1 with
      | none => rw [e6] at p6; exact p6.elim
      | some fs =>
        rw [e6] at p6
        obtain ⟨m, ws, rfl, hm⟩ := kOf_of hr6 e6
        have hk6 := hk4.mono f6.ff
        have hl6 := hl.mono f6.ff
        exact ⟨k, l, m, vs, us, ws, rfl, hw ▸ hk6.at rs6.fh, hw ▸ hl6.at rs6.fh, hw ▸ hm.at rs6.fh, hw ▸ Post.fin (a := zipL3 ds es fs) p6 .refl rs6 _ (walkD_zip3 hk6 hl6 hm)⟩
end
end IL
end
section
set_option maxHeartbeats 4000000
namespace IL
open PySem PySem.Spec PyProof.Rows L2
abbrev ZipG (h : Heap) (z TI TO : Addr) (f0 : Value) (f1 : Bool) : Prop :=
  h.get? z = some { cls := .type "zip", dict := none, data := .fields #[f0, .bool f1, .bool false, .ref TI, .ref TO], slots := #[] }
section
variable {prog : Program} {w : World} {A : Around} {E : Value → Shared → Prop} {s : Shared} {z TI TO i1 i2 : Addr} {fp1 fp2 : List Addr} {n1 n2 i : Nat} {P1 P2 : Nat → Value → Prop} {St1 St2 : Nat → Heap → Prop} {a1 a2 f0 : Value} {f1 : Bool}
/-- is the tuple that was given out free? -/
theorem owned_free {Q : Bool → Shared → Prop} (hz : ZipG s.heap z TI TO f0 f1) (h0 : f0 = .none ∨ ∃ T : Addr, f0 = rawInt T) (ht : Q true s) (hf : ∀ h' f1', ZipG h' z TI TO f0 f1' → Heap.SameBut z s.heap h' → Q false { s with heap := h' }) :
    wpAny (model prog w) A (Builtin.SmallTypes.ownedTupleIsFree (.ref z)) Q E s := by
  unfold Builtin.SmallTypes.ownedTupleIsFree
  rcases h0 with rfl | ⟨T, rfl⟩
  · exact wpAny_bind (wpAny_field hz rfl (x := .none) rfl (wpAny_pure ht))
  · refine wpAny_bind (wpAny_field hz rfl (x := rawInt T) rfl ?_)
    show wpAny _ _ (loadIfAlive ((T : Int).toNat) >>= _) _ _ _
    rw [Int.toNat_natCast]
    refine wpAny_bind ?_
    have al : ∀ {Q' : Option Obj → Shared → Prop}, Q' (s.heap.get? T) s → wpAny (model prog w) A (loadIfAlive T) Q' E s := fun h _ _ _ => h
    refine al ?_
    cases hT : s.heap.get? T with
    | none =>
      simp only [Option.isNone_none, if_true]
      exact wpAny_pure ht
    | some oT =>
      simp only [Option.isNone_some, Bool.false_eq_true, if_false]
      refine wpAny_bind (wpAny_field hz rfl (x := .bool f1) rfl ?_)
      cases f1 with
      | true =>
        rw [if_neg (show ¬ ((Value.bool true != Value.bool true) = true) from Bool.false_ne_true)]
        exact wpAny_pure (hf s.heap true hz (Heap.SameBut.refl _ _))
      | false =>
        rw [if_pos (show (Value.bool false != Value.bool true) = true from rfl)]
        exact wpAny_bind (wpAny_setField_rec hz (by simp) fun h₁ hz₁ hs₁ => wpAny_pure (hf h₁ true hz₁ hs₁))
/-- what a zip is between two turns -/
def ZipS (h : Heap) (z TI TO i1 i2 : Addr) : Prop := (∃ f0 f1, (f0 = .none ∨ ∃ T : Addr, f0 = rawInt T) ∧ ZipG h z TI TO f0 f1) ∧ IsTupOf2 h TI (.ref i1) (.ref i2) ∧ ∃ a1 a2, IsTupOf2 h TO a1 a2
theorem zipG_next_item {Q : Value → Shared → Prop} (S : ZipSep2 z TI TO i1 i2 fp1 fp2) (D1 : Draws prog w A i1 fp1 n1 P1 St1) (D2 : Draws prog w A i2 fp2 n2 P2 St2)
    (hzs : ZipS s.heap z TI TO i1 i2) (st1 : St1 i s.heap) (st2 : St2 i s.heap) (hlt1 : i < n1) (hlt2 : i < n2)
    (hQ : ∀ x1 x2 h' tk, P1 i x1 → P2 i x2 → ZipS h' z TI TO i1 i2 → St1 (i + 1) h' → St2 (i + 1) h' → IsTupOf2 h' s.heap.objs.size x1 x2 → h'.objs.size = s.heap.objs.size + 1 →
      (∀ c o, c ≠ z → c ≠ TO → c ≠ i1 → c ≠ i2 → s.heap.get? c = some o → h'.get? c = some o) → Q (.ref s.heap.objs.size) { s with heap := h', toks := tk }) :
    wpAny (model prog w) A (Builtin.«zip.__next__» ⟨[.ref z], []⟩) (fun fin s' => ∃ v, fin = .done (.ret v) ∧ Q v s') E s := by
  obtain ⟨⟨f0, f1, h0, hz⟩, hTI, a1, a2, hTO⟩ := hzs
  obtain ⟨hp, g, d, tk0, os⟩ := s
  show wpAny _ _ (field (.ref z) 2 >>= _) _ _ _
  refine wpAny_bind (wpAny_field hz rfl (x := .bool false) rfl ?_)
  show wpAny _ _ (field (.ref z) 3 >>= _) _ _ _
  refine wpAny_bind (wpAny_field hz rfl (x := .ref TI) rfl ?_)
  refine wpAny_bind (wpAny_seqItems hTI rfl ?_)
  show wpAny _ _ (Builtin.SmallTypes.ownedTupleIsFree (.ref z) >>= _) _ _ _
  refine wpAny_bind (owned_free hz h0 ?_ ?_)
  · simp only [if_true]
    refine wpAny_bind (wpAny_rule ?_)
    refine wpAny_bind (wpAny_field hz rfl (x := .ref TO) rfl ?_)
    refine wpAny_bind (wpAny_setField_rec hz (by simp) fun g0 hz0 hs0 => ?_)
    replace hz0 : ZipG g0 z TI TO .ellipsis f1 := hz0
    replace hs0 : Heap.SameBut z hp g0 := hs0
    refine wpAny_bind ?_
    simp only [List.zipIdx_cons, List.zipIdx_nil, List.forIn_cons, List.forIn_nil]
    refine wpAny_bind (wpAny_bind (wpAny_onRaise ?_))
    show wpAny _ _ (Builtin.SmallTypes.nextOf (.ref i1) >>= _) _ _ ⟨g0, g, d, tk0, os⟩
    refine wpAny_bind (D1.item i _ _ _ hlt1 (D1.over st1 hs0 S.zf1) fun x1 p1 tk1 hx1 sn1 hp1 => wpAny_pure ?_)
    replace hp1 : Heap.SameBut i1 g0 p1 := hp1
    have hU1 : IsTupOf2 p1 TO a1 a2 := hp1.extBut _ _ S.Ti1 (hs0.extBut _ _ S.TOz hTO)
    refine wpAny_bind (wpAny_seqItems (s := ⟨p1, g, d, tk1, os⟩) hU1 rfl ?_)
    refine wpAny_bind (updateSeq_IsTupOf2 (s := ⟨p1, g, d, tk1, os⟩) hU1 fun g1 hT1 hs1 => ?_)
    replace hT1 : IsTupOf2 g1 TO x1 a2 := hT1
    replace hs1 : Heap.SameBut TO p1 g1 := hs1
    refine wpAny_bind (wpAny_letGo (wpAny_pure ?_))
    refine wpAny_bind (wpAny_bind (wpAny_onRaise ?_))
    show wpAny _ _ (Builtin.SmallTypes.nextOf (.ref i2) >>= _) _ _ ⟨g1, g, d, tk1, os⟩
    refine wpAny_bind (D2.item i _ _ _ hlt2 (D2.over (D2.over (D2.over st2 hs0 S.zf2) hp1 S.sep1_2) hs1 S.Tf2) fun x2 p2 tk2 hx2 sn2 hp2 => wpAny_pure ?_)
    replace hp2 : Heap.SameBut i2 g1 p2 := hp2
    have hU2 : IsTupOf2 p2 TO x1 a2 := hp2.extBut _ _ S.Ti2 hT1
    refine wpAny_bind (wpAny_seqItems (s := ⟨p2, g, d, tk2, os⟩) hU2 rfl ?_)
    refine wpAny_bind (updateSeq_IsTupOf2 (s := ⟨p2, g, d, tk2, os⟩) hU2 fun g2 hT2 hs2 => ?_)
    replace hT2 : IsTupOf2 g2 TO x1 x2 := hT2
    replace hs2 : Heap.SameBut TO p2 g2 := hs2
    refine wpAny_bind (wpAny_letGo (wpAny_pure (wpAny_pure ?_)))
    refine wpAny_bind (wpAny_seqItems (s := ⟨g2, g, d, tk2, os⟩) hT2 rfl ?_)
    refine wpAny_bind (wpAny_newTuple ?_)
    have hsz : g2.objs.size = hp.objs.size := by rw [hs2.1, hp2.1, hs1.1, hp1.1, hs0.1]
    have hzz : ZipG g2 z TI TO .ellipsis f1 := (hs2.extBut _ _ S.TOz.symm (hp2.extBut _ _ S.zi2 (hs1.extBut _ _ S.TOz.symm (hp1.extBut _ _ S.zi1 hz0))))
    have hkk : ∀ c o, c ≠ z → c ≠ TO → c ≠ i1 → c ≠ i2 → hp.get? c = some o → g2.get? c = some o := fun c o cz cT c1 c2 e =>
      (hs2.extBut _ _ cT (hp2.extBut _ _ c2 (hs1.extBut _ _ cT (hp1.extBut _ _ c1 (hs0.extBut _ _ cz e)))))
    have hj1 : St1 (i + 1) g2 := (D1.over (D1.over (D1.over sn1 hs1 S.Tf1) hp2 S.sep2_1) hs2 S.Tf1)
    have hj2 : St2 (i + 1) g2 := (D2.over sn2 hs2 S.Tf2)
    have hzlt : z < g2.objs.size := Heap.lt_size hzz
    show wpAny _ _ (Builtin.SmallTypes.ownedTupleHandOut (.ref z) (.ref g2.objs.size) >>= _) _ _ ⟨g2.push { cls := .type "tuple", data := .seq #[x1, x2] }, g, d, tk2, os⟩
    refine wpAny_bind ?_
    unfold Builtin.SmallTypes.ownedTupleHandOut
    have hz₆ : ZipG (g2.push { cls := .type "tuple", data := .seq #[x1, x2] }) z TI TO .ellipsis f1 := Heap.get?_push_of_some _ hzz
    refine wpAny_bind (wpAny_setField_rec hz₆ (by simp) fun h₇ hz₇ hs₇ => ?_)
    replace hz₇ : ZipG h₇ z TI TO (rawInt g2.objs.size) f1 := hz₇
    refine wpAny_setField_rec hz₇ (by simp) fun h₈ hz₈ hs₈ => ?_
    replace hz₈ : ZipG h₈ z TI TO (rawInt g2.objs.size) false := hz₈
    replace hs₇ : Heap.SameBut z (g2.push { cls := .type "tuple", data := .seq #[x1, x2] }) h₇ := hs₇
    replace hs₈ : Heap.SameBut z h₇ h₈ := hs₈
    have up : ∀ c o, c ≠ z → g2.get? c = some o → h₈.get? c = some o := fun c o c1 e => hs₈.extBut _ _ c1 (hs₇.extBut _ _ c1 (Heap.get?_push_of_some _ e))
    have hT₈ : IsTupOf2 h₈ g2.objs.size x1 x2 := hs₈.extBut _ _ (Nat.ne_of_gt hzlt) (hs₇.extBut _ _ (Nat.ne_of_gt hzlt) (Heap.get?_push_size _ rfl))
    have hz8 : h₈.objs.size = g2.objs.size + 1 := by rw [hs₈.1, hs₇.1, Heap.size_push]
    rw [hsz] at hz₈ hT₈ hz8
    refine wpAny_pure ⟨_, rfl, ?_⟩
    show Q (.ref g2.objs.size) ⟨h₈, g, d, tk2, os⟩
    rw [hsz]
    exact hQ x1 x2 h₈ tk2 hx1 hx2 ⟨⟨_, _, .inr ⟨_, rfl⟩, hz₈⟩, up _ _ S.TIz (hkk _ _ S.TIz S.TITO S.TIi1 S.TIi2 hTI), _, _, up _ _ S.TOz hT2⟩ (D1.frame _ _ _ hj1 fun b hb o e => up b o (fun q => S.zf1 (q ▸ hb)) e) (D2.frame _ _ _ hj2 fun b hb o e => up b o (fun q => S.zf2 (q ▸ hb)) e) hT₈ hz8 fun c o cz cT c1 c2 e => up c o cz (hkk c o cz cT c1 c2 e)
  · intro h₁ f1' hz₁ hs₁
    replace hs₁ : Heap.SameBut z hp h₁ := hs₁
    simp only [Bool.false_eq_true, if_false]
    refine wpAny_bind ?_
    rw [← Array.forIn_toList]
    simp only [List.forIn_cons, List.forIn_nil]
    refine wpAny_bind (wpAny_bind (wpAny_holding ?_))
    show wpAny _ _ (Builtin.SmallTypes.nextOf (.ref i1) >>= _) _ _ ⟨h₁, g, d, tk0, os⟩
    refine wpAny_bind (D1.item i _ _ _ hlt1 (D1.over st1 hs₁ S.zf1) fun x1 p1 tk1 hx1 sn1 hp1 => wpAny_pure ?_)
    replace hp1 : Heap.SameBut i1 h₁ p1 := hp1
    refine wpAny_pure ?_
    refine wpAny_bind (wpAny_bind (wpAny_holding ?_))
    show wpAny _ _ (Builtin.SmallTypes.nextOf (.ref i2) >>= _) _ _ ⟨p1, g, d, tk1, os⟩
    refine wpAny_bind (D2.item i _ _ _ hlt2 (D2.over (D2.over st2 hs₁ S.zf2) hp1 S.sep1_2) fun x2 p2 tk2 hx2 sn2 hp2 => wpAny_pure ?_)
    replace hp2 : Heap.SameBut i2 p1 p2 := hp2
    refine wpAny_pure (wpAny_pure ?_)
    show wpAny _ _ (newTuple [x1, x2] >>= _) _ _ ⟨p2, g, d, tk2, os⟩
    refine wpAny_bind (wpAny_newTuple ?_)
    have hsz : p2.objs.size = hp.objs.size := by rw [hp2.1, hp1.1, hs₁.1]
    have hkk : ∀ c o, c ≠ z → c ≠ i1 → c ≠ i2 → hp.get? c = some o → p2.get? c = some o := fun c o cz c1 c2 e => hp2.extBut _ _ c2 (hp1.extBut _ _ c1 (hs₁.extBut _ _ cz e))
    have hz₃ : ZipG p2 z TI TO f0 f1' := hp2.extBut _ _ S.zi2 (hp1.extBut _ _ S.zi1 hz₁)
    have hj1 : St1 (i + 1) p2 := D1.over sn1 hp2 S.sep2_1
    refine wpAny_pure ⟨_, rfl, ?_⟩
    show Q (.ref p2.objs.size) _
    have hpr : IsTupOf2 (p2.push { cls := .type "tuple", data := .seq #[x1, x2] }) p2.objs.size x1 x2 := Heap.get?_push_size _ rfl
    have hz4 : (p2.push { cls := .type "tuple", data := .seq #[x1, x2] }).objs.size = p2.objs.size + 1 := Heap.size_push ..
    rw [hsz] at hpr hz4 ⊢
    have up : ∀ c o, p2.get? c = some o → (p2.push { cls := .type "tuple", data := .seq #[x1, x2] }).get? c = some o := fun c o e => Heap.get?_push_of_some _ e
    exact hQ x1 x2 _ tk2 hx1 hx2 ⟨⟨f0, f1', h0, up _ _ hz₃⟩, up _ _ (hkk _ _ S.TIz S.TIi1 S.TIi2 hTI), a1, a2, up _ _ (hkk _ _ S.TOz S.Ti1 S.Ti2 hTO)⟩ (D1.frame _ _ _ hj1 fun b hb o e => up b o e) (D2.frame _ _ _ sn2 fun b hb o e => up b o e) hpr hz4 fun c o cz cT c1 c2 e => up c o (hkk c o cz c1 c2 e)
theorem zipG_next_end {Q : Fin → Shared → Prop} (S : ZipSep2 z TI TO i1 i2 fp1 fp2) (D1 : Draws prog w A i1 fp1 n1 P1 St1) (D2 : Draws prog w A i2 fp2 n2 P2 St2)
    (hzs : ZipS s.heap z TI TO i1 i2) (st1 : St1 i s.heap) (st2 : St2 i s.heap) (hle1 : i ≤ n1) (hle2 : i ≤ n2) (hend : i = n1 ∨ i = n2)
    (hE : ∀ h' tk e, (∀ c o, c ≠ z → c ≠ TO → c ≠ i1 → c ≠ i2 → s.heap.get? c = some o → h'.get? c = some o) → (∃ o, h'.get? e = some o ∧ o.cls = .type "StopIteration") → E (.ref e) { s with heap := h', toks := tk }) :
    wpAny (model prog w) A (Builtin.«zip.__next__» ⟨[.ref z], []⟩) Q E s := by
  obtain ⟨⟨f0, f1, h0, hz⟩, hTI, a1, a2, hTO⟩ := hzs
  obtain ⟨hp, g, d, tk0, os⟩ := s
  show wpAny _ _ (field (.ref z) 2 >>= _) _ _ _
  refine wpAny_bind (wpAny_field hz rfl (x := .bool false) rfl ?_)
  show wpAny _ _ (field (.ref z) 3 >>= _) _ _ _
  refine wpAny_bind (wpAny_field hz rfl (x := .ref TI) rfl ?_)
  refine wpAny_bind (wpAny_seqItems hTI rfl ?_)
  show wpAny _ _ (Builtin.SmallTypes.ownedTupleIsFree (.ref z) >>= _) _ _ _
  refine wpAny_bind (owned_free hz h0 ?_ ?_)
  · simp only [if_true]
    refine wpAny_bind (wpAny_rule ?_)
    refine wpAny_bind (wpAny_field hz rfl (x := .ref TO) rfl ?_)
    refine wpAny_bind (wpAny_setField_rec hz (by simp) fun g0 hz0 hs0 => ?_)
    replace hz0 : ZipG g0 z TI TO .ellipsis f1 := hz0
    replace hs0 : Heap.SameBut z hp g0 := hs0
    refine wpAny_bind ?_
    simp only [List.zipIdx_cons, List.zipIdx_nil, List.forIn_cons, List.forIn_nil]
    refine wpAny_bind (wpAny_bind (wpAny_onRaise ?_))
    show wpAny _ _ (Builtin.SmallTypes.nextOf (.ref i1) >>= _) _ _ ⟨g0, g, d, tk0, os⟩
    by_cases hlt1 : i < n1
    · refine wpAny_bind (D1.item i _ _ _ hlt1 (D1.over st1 hs0 S.zf1) fun x1 p1 tk1 hx1 sn1 hp1 => wpAny_pure ?_)
      replace hp1 : Heap.SameBut i1 g0 p1 := hp1
      have hU1 : IsTupOf2 p1 TO a1 a2 := hp1.extBut _ _ S.Ti1 (hs0.extBut _ _ S.TOz hTO)
      refine wpAny_bind (wpAny_seqItems (s := ⟨p1, g, d, tk1, os⟩) hU1 rfl ?_)
      refine wpAny_bind (updateSeq_IsTupOf2 (s := ⟨p1, g, d, tk1, os⟩) hU1 fun g1 hT1 hs1 => ?_)
      replace hT1 : IsTupOf2 g1 TO x1 a2 := hT1
      replace hs1 : Heap.SameBut TO p1 g1 := hs1
      refine wpAny_bind (wpAny_letGo (wpAny_pure ?_))
      have hi2 : i = n2 := by omega
      refine wpAny_bind (wpAny_bind (wpAny_onRaise ?_))
      show wpAny _ _ (Builtin.SmallTypes.nextOf (.ref i2) >>= _) _ _ ⟨g1, g, d, tk1, os⟩
      refine wpAny_bind (D2.done ⟨g1, g, d, tk1, os⟩ _ _ (by rw [← hi2]; exact (D2.over (D2.over (D2.over st2 hs0 S.zf2) hp1 S.sep1_2) hs1 S.Tf2)) fun q e hq he => ?_)
      replace hq : Heap.ExtBut i2 g1 q := hq
      obtain ⟨oe, hoe, hce⟩ := he
      replace hoe : q.get? e = some oe := hoe
      have hzq : ZipG q z TI TO .ellipsis f1 := hq _ _ S.zi2 (hs1.extBut _ _ S.TOz.symm (hp1.extBut _ _ S.zi1 hz0))
      have hez : e ≠ z := fun x => by subst x; rw [hzq] at hoe; cases hoe; simp at hce
      refine wpAny_setField_rec (s := ⟨q, g, d, tk1, os⟩) hzq (by simp) fun q' _ hq' => ?_
      replace hq' : Heap.SameBut z q q' := hq'
      exact hE q' tk1 e (fun c o cz cT c1 c2 x => hq'.extBut _ _ cz (hq _ _ c2 (hs1.extBut _ _ cT (hp1.extBut _ _ c1 (hs0.extBut _ _ cz x))))) ⟨oe, hq'.extBut _ _ hez hoe, hce⟩
    · have hi1 : i = n1 := by omega
      refine wpAny_bind (D1.done ⟨g0, g, d, tk0, os⟩ _ _ (by rw [← hi1]; exact (D1.over st1 hs0 S.zf1)) fun q e hq he => ?_)
      replace hq : Heap.ExtBut i1 g0 q := hq
      obtain ⟨oe, hoe, hce⟩ := he
      replace hoe : q.get? e = some oe := hoe
      have hzq : ZipG q z TI TO .ellipsis f1 := hq _ _ S.zi1 hz0
      have hez : e ≠ z := fun x => by subst x; rw [hzq] at hoe; cases hoe; simp at hce
      refine wpAny_setField_rec (s := ⟨q, g, d, tk0, os⟩) hzq (by simp) fun q' _ hq' => ?_
      replace hq' : Heap.SameBut z q q' := hq'
      exact hE q' tk0 e (fun c o cz cT c1 c2 x => hq'.extBut _ _ cz (hq _ _ c1 (hs0.extBut _ _ cz x))) ⟨oe, hq'.extBut _ _ hez hoe, hce⟩
  · intro h₁ f1' hz₁ hs₁
    replace hs₁ : Heap.SameBut z hp h₁ := hs₁
    simp only [Bool.false_eq_true, if_false]
    refine wpAny_bind ?_
    rw [← Array.forIn_toList]
    simp only [List.forIn_cons, List.forIn_nil]
    refine wpAny_bind (wpAny_bind (wpAny_holding ?_))
    show wpAny _ _ (Builtin.SmallTypes.nextOf (.ref i1) >>= _) _ _ ⟨h₁, g, d, tk0, os⟩
    by_cases hlt1 : i < n1
    · refine wpAny_bind (D1.item i _ _ _ hlt1 (D1.over st1 hs₁ S.zf1) fun x1 p1 tk1 hx1 sn1 hp1 => wpAny_pure ?_)
      replace hp1 : Heap.SameBut i1 h₁ p1 := hp1
      refine wpAny_pure ?_
      have hi2 : i = n2 := by omega
      refine wpAny_bind (wpAny_bind (wpAny_holding ?_))
      show wpAny _ _ (Builtin.SmallTypes.nextOf (.ref i2) >>= _) _ _ ⟨p1, g, d, tk1, os⟩
      refine wpAny_bind (D2.done ⟨p1, g, d, tk1, os⟩ _ _ (by rw [← hi2]; exact (D2.over (D2.over st2 hs₁ S.zf2) hp1 S.sep1_2)) fun q e hq he => ?_)
      replace hq : Heap.ExtBut i2 p1 q := hq
      exact hE q tk1 e (fun c o cz cT c1 c2 x => hq _ _ c2 (hp1.extBut _ _ c1 (hs₁.extBut _ _ cz x))) he
    · have hi1 : i = n1 := by omega
      refine wpAny_bind (D1.done ⟨h₁, g, d, tk0, os⟩ _ _ (by rw [← hi1]; exact (D1.over st1 hs₁ S.zf1)) fun q e hq he => ?_)
      replace hq : Heap.ExtBut i1 h₁ q := hq
      exact hE q tk0 e (fun c o cz cT c1 c2 x => hq _ _ c1 (hs₁.extBut _ _ cz x)) he
theorem nextOf_zip {Q : Value → Shared → Prop} {b : Builtin} (hz : s.TypeIs (.ref z) "zip") (h : wpAny (model prog w) A.in1 (Builtin.«zip.__next__» ⟨[.ref z], []⟩) (fun fin s' => ∃ v, fin = .done (.ret v) ∧ Q v s') E s) :
    wpAny (model prog w) A (Builtin.SmallTypes.nextOf (.ref z)) Q E s := by
  unfold Builtin.SmallTypes.nextOf
  exact wpAny_bind (wpAny_callSpecial?_slot (name := Str.ofString "__next__") hz F.slot_zip_next (wpAny_call_entry F.slot_zip_next hz F.entry_zip_next (wpAny_mono h (fun fin s' ⟨v, e, q⟩ => ⟨v, e, wpAny_pure q⟩) fun _ _ q => q) (F.args_zip_next_1 _)))
theorem ZipS.typ {h : Heap} (Z : ZipS h z TI TO i1 i2) : ∃ o, h.get? z = some o ∧ o.cls = .type "zip" := by
  obtain ⟨⟨f0, f1, _, hz⟩, _⟩ := Z
  exact ⟨_, hz, rfl⟩
/-- enumerate over a zip: the next pair -/
theorem enumZ_next_item {e : Addr} {old : Value} {Q : Value → Shared → Prop} (S : ZipSep2 z TI TO i1 i2 fp1 fp2) (D1 : Draws prog w A.in1 i1 fp1 n1 P1 St1) (D2 : Draws prog w A.in1 i2 fp2 n2 P2 St2)
    (he : IsEnum s.heap e z i old) (hzs : ZipS s.heap z TI TO i1 i2) (st1 : St1 i s.heap) (st2 : St2 i s.heap) (hlt1 : i < n1) (hlt2 : i < n2) (hez : e ≠ z) (heT : e ≠ TO) (he1 : e ≠ i1) (he2 : e ≠ i2) (heI : e ≠ TI) (hef1 : e ∉ fp1) (hef2 : e ∉ fp2)
    (hQ : ∀ x1 x2 h₁ h' tk, P1 i x1 → P2 i x2 → h₁.objs.size = s.heap.objs.size + 1 → IsTupOf2 h₁ s.heap.objs.size x1 x2 → (∀ c o, c ≠ z → c ≠ TO → c ≠ i1 → c ≠ i2 → s.heap.get? c = some o → h₁.get? c = some o) →
      IsEnumOut h' e z ((i : Int) + 1) (.ref s.heap.objs.size) (s.heap.objs.size + 1) → ZipS h' z TI TO i1 i2 → St1 (i + 1) h' → St2 (i + 1) h' → h'.get? (s.heap.objs.size + 1) = some { cls := .type "tuple", data := .seq #[.int i tk, .ref s.heap.objs.size] } → h'.objs.size = s.heap.objs.size + 2 →
      (∀ b o, b ≠ e → h₁.get? b = some o → h'.get? b = some o) → Q (.ref (s.heap.objs.size + 1)) { s with heap := h', toks := tk + 1 }) :
    wpAny (model prog w) A (Builtin.«enumerate.__next__» ⟨[.ref e], []⟩) (fun fin s' => ∃ v, fin = .done (.ret v) ∧ Q v s') E s := by
  obtain ⟨hp, g, d, tk₀, os⟩ := s
  show wpAny _ _ (field (.ref e) 2 >>= _) _ _ _
  refine wpAny_bind (wpAny_field he rfl (x := .ref z) rfl ?_)
  refine wpAny_bind (nextOf_zip (b := Builtin.«zip.__next__») hzs.typ (zipG_next_item S D1 D2 hzs st1 st2 hlt1 hlt2 fun x1 x2 h₁ tk hx1 hx2 hz1 sn1 sn2 hT1 hsz1 hk1 => ?_))
  replace hsz1 : h₁.objs.size = hp.objs.size + 1 := hsz1
  replace hT1 : IsTupOf2 h₁ hp.objs.size x1 x2 := hT1
  replace hk1 : ∀ c o, c ≠ z → c ≠ TO → c ≠ i1 → c ≠ i2 → hp.get? c = some o → h₁.get? c = some o := hk1
  have he₁ : IsEnum h₁ e z i old := hk1 e _ hez heT he1 he2 he
  show wpAny _ _ (field (.ref e) 3 >>= _) _ _ ⟨h₁, g, d, tk, os⟩
  refine wpAny_bind (wpAny_field he₁ rfl (x := rawInt i) rfl ?_)
  show wpAny _ _ (field (.ref e) 4 >>= _) _ _ ⟨h₁, g, d, tk, os⟩
  refine wpAny_bind (wpAny_field he₁ rfl (x := .none) rfl ?_)
  show wpAny _ _ (mkInt i >>= _) _ _ ⟨h₁, g, d, tk, os⟩
  refine wpAny_bind (wpAny_mkInt ?_)
  show wpAny _ _ (setField (.ref e) 3 (rawInt ((i : Int) + 1)) >>= _) _ _ ⟨h₁, g, d, tk + 1, os⟩
  refine wpAny_bind (wpAny_setField_rec he₁ (by simp) fun h₂ he₂ hs₂ => ?_)
  replace hs₂ : Heap.SameBut e h₁ h₂ := hs₂
  replace he₂ : IsEnum h₂ e z ((i : Int) + 1) old := he₂
  show wpAny _ _ (setField (.ref e) 4 .none >>= _) _ _ ⟨h₂, g, d, tk + 1, os⟩
  refine wpAny_bind (wpAny_setField_rec he₂ (by simp) fun h₃ he₃ hs₃ => ?_)
  replace hs₃ : Heap.SameBut e h₂ h₃ := hs₃
  replace he₃ : IsEnum h₃ e z ((i : Int) + 1) old := he₃
  show wpAny _ _ (newTuple [.int i tk, .ref hp.objs.size] >>= _) _ _ ⟨h₃, g, d, tk + 1, os⟩
  refine wpAny_bind (wpAny_newTuple ?_)
  have he₄ : IsEnum (h₃.push { cls := .type "tuple", data := .seq #[.int i tk, .ref hp.objs.size] }) e z ((i : Int) + 1) old := Heap.get?_push_of_some _ he₃
  generalize hh₄ : h₃.push { cls := .type "tuple", data := .seq #[.int i tk, .ref hp.objs.size] } = h₄ at he₄
  have hsz : h₃.objs.size = hp.objs.size + 1 := by rw [hs₃.1, hs₂.1, hsz1]
  have hel : e < hp.objs.size := Heap.lt_size he
  have ht₄ : h₄.get? (hp.objs.size + 1) = some { cls := .type "tuple", data := .seq #[.int i tk, .ref hp.objs.size] } := by rw [← hh₄, ← hsz]; exact Heap.get?_push_size _ rfl
  have hz₄ : h₄.objs.size = hp.objs.size + 2 := by rw [← hh₄, Heap.size_push, hsz]
  have hk₄ : ∀ b o, b ≠ e → h₁.get? b = some o → h₄.get? b = some o := fun b o hbe hb => by
    rw [← hh₄]; exact Heap.get?_push_of_some _ (hs₃.extBut b o hbe (hs₂.extBut b o hbe hb))
  have keepZ : ∀ {h h' : Heap}, (∀ b o, b ≠ e → h.get? b = some o → h'.get? b = some o) → ZipS h z TI TO i1 i2 → ZipS h' z TI TO i1 i2 := fun k ⟨⟨f0, f1, h0, hz⟩, hTI, a1, a2, hTO⟩ =>
    ⟨⟨f0, f1, h0, k _ _ hez.symm hz⟩, k _ _ heI.symm hTI, a1, a2, k _ _ heT.symm hTO⟩
  have f1' : ∀ {h h' : Heap} {j : Nat}, (∀ b o, b ≠ e → h.get? b = some o → h'.get? b = some o) → St1 j h → St1 j h' := fun k st => D1.frame _ _ _ st fun b hb o y => k b o (fun q => hef1 (q ▸ hb)) y
  have f2' : ∀ {h h' : Heap} {j : Nat}, (∀ b o, b ≠ e → h.get? b = some o → h'.get? b = some o) → St2 j h → St2 j h' := fun k st => D2.frame _ _ _ st fun b hb o y => k b o (fun q => hef2 (q ▸ hb)) y
  show wpAny _ _ (Builtin.SmallTypes.ownedTupleIsFree (.ref e) >>= _) _ _ ⟨h₄, g, d, tk + 1, os⟩
  rw [hsz]
  clear hh₄ he₃ hs₃ he₂ hs₂ he₁ hsz h₃ h₂
  refine wpAny_bind ?_
  unfold Builtin.SmallTypes.ownedTupleIsFree
  refine wpAny_bind (wpAny_field he₄ rfl (x := .none) rfl (wpAny_pure ?_))
  simp only [if_true]
  refine wpAny_bind (wpAny_rule ?_)
  refine wpAny_bind (wpAny_field he₄ rfl (x := old) rfl ?_)
  refine wpAny_bind (wpAny_setField_rec he₄ (by simp) fun h₅ he₅ hs₅ => ?_)
  replace hs₅ : Heap.SameBut e h₄ h₅ := hs₅
  replace he₅ : IsEnum h₅ e z ((i : Int) + 1) (.ref hp.objs.size) := he₅
  show wpAny _ _ (Builtin.SmallTypes.ownedTupleHandOut (.ref e) (.ref (hp.objs.size + 1)) >>= _) _ _ ⟨h₅, g, d, tk + 1, os⟩
  refine wpAny_bind ?_
  unfold Builtin.SmallTypes.ownedTupleHandOut
  refine wpAny_bind (wpAny_setField_rec he₅ (by simp) fun h₆ he₆ hs₆ => ?_)
  replace hs₆ : Heap.SameBut e h₅ h₆ := hs₆
  replace he₆ : IsEnumOut h₆ e z ((i : Int) + 1) (.ref hp.objs.size) (hp.objs.size + 1) := he₆
  refine wpAny_setField_rec he₆ (by simp) fun h₇ he₇ hs₇ => ?_
  replace hs₇ : Heap.SameBut e h₆ h₇ := hs₇
  replace he₇ : IsEnumOut h₇ e z ((i : Int) + 1) (.ref hp.objs.size) (hp.objs.size + 1) := he₇
  have k47 : ∀ b o, b ≠ e → h₄.get? b = some o → h₇.get? b = some o := fun b o hb q => hs₇.extBut _ _ hb (hs₆.extBut _ _ hb (hs₅.extBut _ _ hb q))
  have k17 : ∀ b o, b ≠ e → h₁.get? b = some o → h₇.get? b = some o := fun b o hb q => k47 b o hb (hk₄ b o hb q)
  exact wpAny_bind (wpAny_letGo (wpAny_pure ⟨_, rfl, hQ x1 x2 h₁ h₇ tk hx1 hx2 hsz1 hT1 hk1 he₇ (keepZ k17 hz1) (f1' k17 sn1) (f2' k17 sn2) (k47 (hp.objs.size + 1) _ (fun q => absurd (q ▸ hel : hp.objs.size + 1 < hp.objs.size) (Nat.not_lt.mpr (Nat.le_succ _))) ht₄) (by rw [hs₇.1, hs₆.1, hs₅.1, hz₄]) k17⟩))
theorem pyNext_enumZ_item {e : Addr} {old : Value} {Q : Option Value → Shared → Prop} (S : ZipSep2 z TI TO i1 i2 fp1 fp2) (D1 : Draws prog w A.in1.in1 i1 fp1 n1 P1 St1) (D2 : Draws prog w A.in1.in1 i2 fp2 n2 P2 St2)
    (he : IsEnum s.heap e z i old) (hzs : ZipS s.heap z TI TO i1 i2) (st1 : St1 i s.heap) (st2 : St2 i s.heap) (hlt1 : i < n1) (hlt2 : i < n2) (hez : e ≠ z) (heT : e ≠ TO) (he1 : e ≠ i1) (he2 : e ≠ i2) (heI : e ≠ TI) (hef1 : e ∉ fp1) (hef2 : e ∉ fp2)
    (hQ : ∀ x1 x2 h₁ h' tk, P1 i x1 → P2 i x2 → h₁.objs.size = s.heap.objs.size + 1 → IsTupOf2 h₁ s.heap.objs.size x1 x2 → (∀ c o, c ≠ z → c ≠ TO → c ≠ i1 → c ≠ i2 → s.heap.get? c = some o → h₁.get? c = some o) →
      IsEnumOut h' e z ((i : Int) + 1) (.ref s.heap.objs.size) (s.heap.objs.size + 1) → ZipS h' z TI TO i1 i2 → St1 (i + 1) h' → St2 (i + 1) h' → h'.get? (s.heap.objs.size + 1) = some { cls := .type "tuple", data := .seq #[.int i tk, .ref s.heap.objs.size] } → h'.objs.size = s.heap.objs.size + 2 →
      (∀ b o, b ≠ e → h₁.get? b = some o → h'.get? b = some o) → Q (some (.ref (s.heap.objs.size + 1))) { s with heap := h', toks := tk + 1 }) :
    wpAny (model prog w) A (pyNext (.ref e)) Q E s := by
  have hT : s.TypeIs (.ref e) "enumerate" := ⟨_, he, rfl⟩
  unfold pyNext
  exact wpAny_bind (wpAny_attempt (wpAny_callSpecial?_slot (name := Str.ofString "__next__") hT F.slot_enumerate_next
    (wpAny_call_entry F.slot_enumerate_next hT F.entry_enumerate_next
      (enumZ_next_item S D1 D2 he hzs st1 st2 hlt1 hlt2 hez heT he1 he2 heI hef1 hef2 fun x1 x2 h₁ h' tk a b c d f g k l m n o q => wpAny_pure (hQ x1 x2 h₁ h' tk a b c d f g k l m n o q)) (F.args_enumerate_next_1 _))))
theorem pyNext_enumZ_end {e : Addr} {old : Value} {k : Int} {Q : Option Value → Shared → Prop} (S : ZipSep2 z TI TO i1 i2 fp1 fp2) (D1 : Draws prog w A.in1.in1 i1 fp1 n1 P1 St1) (D2 : Draws prog w A.in1.in1 i2 fp2 n2 P2 St2)
    (he : IsEnum s.heap e z k old) (hzs : ZipS s.heap z TI TO i1 i2) (st1 : St1 i s.heap) (st2 : St2 i s.heap) (hle1 : i ≤ n1) (hle2 : i ≤ n2) (hend : i = n1 ∨ i = n2)
    (hQ : ∀ h' tk, (∀ c o, c ≠ z → c ≠ TO → c ≠ i1 → c ≠ i2 → s.heap.get? c = some o → h'.get? c = some o) → Q none { s with heap := h', toks := tk }) :
    wpAny (model prog w) A (pyNext (.ref e)) Q E s := by
  have hT : s.TypeIs (.ref e) "enumerate" := ⟨_, he, rfl⟩
  unfold pyNext
  refine wpAny_bind (wpAny_attempt (wpAny_callSpecial?_slot (name := Str.ofString "__next__") hT F.slot_enumerate_next
    (wpAny_call_entry F.slot_enumerate_next hT F.entry_enumerate_next ?_ (F.args_enumerate_next_1 _))))
  show wpAny _ _ (field (.ref e) 2 >>= _) _ _ _
  refine wpAny_bind (wpAny_field he rfl (x := .ref z) rfl ?_)
  refine wpAny_bind (nextOf_zip (b := Builtin.«zip.__next__») hzs.typ (zipG_next_end S D1 D2 hzs st1 st2 hle1 hle2 hend fun h' tk x hk hx' => ?_))
  obtain ⟨o, ho, hc⟩ := hx'
  refine wpAny_bind (wpAny_isInstance (T := "StopIteration") (b := true) ⟨o, ho, hc⟩ isSubtype_stop ?_)
  exact wpAny_pure (hQ _ tk hk)
end
def IteZ (K : PySem.W.Frag) (k l : SK) : L2.It :=
  ⟨fun i H => ∃ (xs ys : List V) (x y : V), k.At K H xs ∧ l.At K H ys ∧ xs[i]? = some x ∧ ys[i]? = some y,
    fun i H v H' => ∃ T1 T2 x y us us2, v = .ref T2 ∧ H T1 = none ∧ H T2 = none ∧ T1 ≠ T2 ∧ H' = upd (upd H T1 (prO us [x, y])) T2 (prO us2 [.int (i : Nat), .ref T1]) ∧ (∀ xs, k.At K H xs → xs[i]? = some x) ∧ ∀ ys, l.At K H ys → ys[i]? = some y,
    fun i H => ∃ xs ys : List V, k.At K H xs ∧ l.At K H ys ∧ i = min xs.length ys.length⟩
theorem turn_enumZ {P : Program} {w : World} {K : PySem.W.Frag} {elts : List Expr} {kk : Nat} {tpos : Pos} {k l : SK} {u u2 : Tok} {e z TI TO i1 i2 : Addr} (S : ZipSep2 z TI TO i1 i2 (i1 :: k.ad) (i2 :: l.ad)) (hk1 : i1 ∉ k.ad) (hl2 : i2 ∉ l.ad)
    (hez : e ≠ z) (heT : e ≠ TO) (he1 : e ≠ i1) (he2 : e ≠ i2) (heI : e ≠ TI) (hek : e ∉ k.ad) (hel' : e ∉ l.ad) :
    Turn P w K (.Tuple elts kk tpos) (IteZ K k l) [e, z, TI, TO, i1, i2] e (fun i h => (∃ old, IsEnum h e z ((i : Nat) : Int) old) ∧ ZipS h z TI TO i1 i2 ∧ k.st u i1 i h ∧ l.st u2 i2 i h) where
  mem := by simp
  obj := fun i h st c hc => by
    obtain ⟨⟨old, he⟩, ⟨⟨f0, f1, h0, hz⟩, hTI, x, y, hTO⟩, h1, h2⟩ := st
    have e' : c = e ∨ c = z ∨ c = TI ∨ c = TO ∨ c = i1 ∨ c = i2 := by simpa using hc
    rcases e' with q | q | q | q | q | q
    · rw [q]; exact ⟨_, he, fun v q => nomatch q⟩
    · rw [q]; exact ⟨_, hz, fun v q => nomatch q⟩
    · rw [q]; exact ⟨_, hTI, fun v q => nomatch q⟩
    · rw [q]; exact ⟨_, hTO, fun v q => nomatch q⟩
    · rw [q]; exact SK.st_obj h1
    · rw [q]; exact SK.st_obj h2
  keep := fun i h h' st kp => by
    obtain ⟨⟨old, he⟩, ⟨⟨f0, f1, h0, hz⟩, hTI, x, y, hTO⟩, h1, h2⟩ := st
    exact ⟨⟨old, kp e (by simp) _ he⟩, ⟨⟨f0, f1, h0, kp z (by simp) _ hz⟩, kp TI (by simp) _ hTI, x, y, kp TO (by simp) _ hTO⟩, SK.st_at h1 fun o q => kp i1 (by simp) o q, SK.st_at h2 fun o q => kp i2 (by simp) o q⟩
  item := by
    intro X hP hw hK hc i pins s σ H E I hf st hg
    subst hP hw hK
    obtain ⟨⟨old, he⟩, hzs, h1, h2⟩ := st
    obtain ⟨xs, ys, x, y, hqx, hqy, hx, hy⟩ := hg
    have hh : X.A.in1.in1.handled = none := show X.A.in1.in1.handled = none from I.ok.hd hc
    obtain ⟨Pv, St, D1, st1, hPv, hSt⟩ := SK.draws I hqx h1 hk1 hh
    obtain ⟨Pv2, St2, D2, st2, hPv2, hSt2⟩ := SK.draws I hqy h2 hl2 hh
    have hi1 : i < xs.length := (List.getElem?_eq_some_iff.mp hx).1
    have hi2 : i < ys.length := (List.getElem?_eq_some_iff.mp hy).1
    have hel : e < s.heap.objs.size := Heap.lt_size he
    refine pyNext_enumZ_item S D1 D2 he hzs st1 st2 hi1 hi2 hez heT he1 he2 heI (fun q => by rcases List.mem_cons.mp q with q | q; exact he1 q; exact hek q) (fun q => by rcases List.mem_cons.mp q with q | q; exact he2 q; exact hel' q) fun v1 v2 h₁ h' tk p1 p2 hsz1 hT1 hk1' ho hz' s1' s2' hT2 hsz2 hk2 => ?_
    obtain ⟨x', hx', ru⟩ := hPv _ _ p1
    rw [hx] at hx'
    cases hx'
    obtain ⟨y', hy', ru2⟩ := hPv2 _ _ p2
    rw [hy] at hy'
    cases hy'
    refine ⟨_, rfl, wpAny_letOwnedTupleGo_enum (s := { s with heap := h', toks := tk + 1 }) ho fun h'' he' sb => ?_⟩
    have new1 : ObjOk X.prog X.w (upd H s.heap.objs.size (prO [v1, v2] [x, y])) h₁ s.heap.objs.size (prO [v1, v2] [x, y]) :=
      ⟨hT1, by show 2 ≤ sizeLine; decide, [v1, v2], .cons ru (.cons ru2 .nil), ⟨_, hT1, rfl, _, rfl⟩⟩
    have I1 : Inv X pins σ (upd H s.heap.objs.size (prO [v1, v2] [x, y])) { s with heap := h₁, toks := tk } :=
      I.turnedNew (t' := tk) (ch := [e, z, TI, TO, i1, i2]) (fun c o hb q => hk1' c o (fun q' => hb (by simp [q'])) (fun q' => hb (by simp [q'])) (fun q' => hb (by simp [q'])) (fun q' => hb (by simp [q'])) q) hf (Nat.le_refl _) new1
    have hTe : s.heap.objs.size + 1 ≠ e := Nat.ne_of_gt (Nat.lt_succ_of_lt hel)
    have hT2' : h''.get? (s.heap.objs.size + 1) = some { cls := .type "tuple", data := .seq #[.int i tk, .ref s.heap.objs.size] } := (sb.2 _ hTe).trans hT2
    have new2 : ObjOk X.prog X.w (upd (upd H s.heap.objs.size (prO [v1, v2] [x, y])) (s.heap.objs.size + 1) (prO [.int i tk, .ref s.heap.objs.size] [.int (i : Nat), .ref s.heap.objs.size])) h'' (s.heap.objs.size + 1) (prO [.int i tk, .ref s.heap.objs.size] [.int (i : Nat), .ref s.heap.objs.size]) :=
      ⟨hT2', by show 2 ≤ sizeLine; decide, [.int i tk, .ref s.heap.objs.size], .cons ⟨_, rfl⟩ (.cons rfl .nil), ⟨_, hT2', rfl, _, rfl⟩⟩
    have I2 : Inv X pins σ (upd (upd H s.heap.objs.size (prO [v1, v2] [x, y])) (s.heap.objs.size + 1) (prO [.int i tk, .ref s.heap.objs.size] [.int (i : Nat), .ref s.heap.objs.size])) { s with heap := h'', toks := tk + 1 } :=
      I1.turnedNew (t' := tk + 1) (ch := [e]) (fun c o hb q => (sb.2 c (fun q' => hb (by simp [q']))).trans (hk2 c o (fun q' => hb (by simp [q'])) q)) (fun b hb => by
        have hb' : b = e := by simpa using hb
        have q := hf e (by simp)
        rw [hb']
        exact ⟨by rw [upd_ne (Nat.ne_of_lt hel)]; exact q.1, q.2⟩) (by show h₁.objs.size ≤ _; rw [hsz1]; exact Nat.le_refl _) new2
    obtain ⟨⟨f0, f1, g0, hz2⟩, hTI2, xx, yy, hTO2⟩ := hz'
    refine ⟨.ref (s.heap.objs.size + 1), _, I2, rfl, ⟨_, _, x, y, _, _, rfl, I.hok.fresh (Nat.le_refl _), I.hok.fresh (Nat.le_succ _), Nat.ne_of_lt (Nat.lt_succ_self _), rfl, fun q hq => by rw [SK.inj I hq hqx]; exact hx, fun q hq => by rw [SK.inj I hq hqy]; exact hy⟩,
      ⟨⟨.ref s.heap.objs.size, ?_⟩, ⟨⟨f0, f1, g0, (sb.2 z hez.symm).trans hz2⟩, (sb.2 TI heI.symm).trans hTI2, xx, yy, (sb.2 TO heT.symm).trans hTO2⟩, SK.st_at (hSt _ _ s1') fun o q => (sb.2 i1 he1.symm).trans q, SK.st_at (hSt2 _ _ s2') fun o q => (sb.2 i2 he2.symm).trans q⟩, fun c hcm => ?_⟩
    · have e1 : ((i + 1 : Nat) : Int) = (i : Int) + 1 := by omega
      rw [e1]; exact he'
    · have hlt : c < s.heap.objs.size := by
        obtain ⟨⟨f0, f1, g0, hz0⟩, hTI0, xx, yy, hTO0⟩ := hzs
        have e' : c = e ∨ c = z ∨ c = TI ∨ c = TO ∨ c = i1 ∨ c = i2 := by simpa using hcm
        rcases e' with q | q | q | q | q | q
        · rw [q]; exact hel
        · rw [q]; exact Heap.lt_size hz0
        · rw [q]; exact Heap.lt_size hTI0
        · rw [q]; exact Heap.lt_size hTO0
        · rw [q]; obtain ⟨_, e1, _⟩ := SK.st_obj h1; exact Heap.lt_size e1
        · rw [q]; obtain ⟨_, e1, _⟩ := SK.st_obj h2; exact Heap.lt_size e1
      rw [upd_ne (Nat.ne_of_lt (Nat.lt_succ_of_lt hlt)), upd_ne (Nat.ne_of_lt hlt)]
      exact (hf c hcm).1
  done := by
    intro X hP hw hK hc i pins s σ H E I hf st hg
    subst hP hw hK
    obtain ⟨⟨old, he⟩, hzs, h1, h2⟩ := st
    obtain ⟨xs, ys, hqx, hqy, hend⟩ := hg
    have hh : X.A.in1.in1.handled = none := show X.A.in1.in1.handled = none from I.ok.hd hc
    obtain ⟨Pv, St, D1, st1, hPv, hSt⟩ := SK.draws I hqx h1 hk1 hh
    obtain ⟨Pv2, St2, D2, st2, hPv2, hSt2⟩ := SK.draws I hqy h2 hl2 hh
    exact pyNext_enumZ_end S D1 D2 he hzs st1 st2 (by omega) (by omega) (by omega) fun h' tk hk => ⟨rfl, I.turnedL (t' := tk) (ch := [e, z, TI, TO, i1, i2]) (fun c o hb q =>
      hk c o (fun q' => hb (by simp [q'])) (fun q' => hb (by simp [q'])) (fun q' => hb (by simp [q'])) (fun q' => hb (by simp [q'])) q) hf⟩
  self := fun A i s Q E st h => let ⟨⟨_, he⟩, _⟩ := st; wpAny_pyIter_enum he h
theorem walkD_enumZ {w : Wo} {F0 : Hp} {k l : SK} {vs us : List V} {ds es : List D} (h : kOf w F0 k vs ds) (h2 : kOf w F0 l us es) : WalkD w F0 (IteZ w.K k l) (enumL 0 (zipL ds es)) := fun i F H s1 s2 => by
  have q := h.at (s1.trans s2)
  have q2 := h2.at (s1.trans s2)
  have r := h.reps
  have r2 := h2.reps
  refine ⟨fun d e => ?_, fun e => ⟨vs, us, q, q2, by rw [r.length, r2.length, e, enumL_len, zipL_len]⟩⟩
  rw [enumL_get, Option.map_eq_some_iff] at e
  obtain ⟨d0, e, rfl⟩ := e
  obtain ⟨d1, d2, e1, e2, rfl⟩ := zipL_get e
  obtain ⟨x, f1, g1⟩ := r.get e1
  obtain ⟨y, f2, g2⟩ := r2.get e2
  refine ⟨⟨vs, us, x, y, q, q2, f1, f2⟩, fun v H' yy => ?_⟩
  obtain ⟨T1, T2, x', y', us1, us2, rfl, hT1, hT2, hne, rfl, hx, hy⟩ := yy
  have := hx vs q
  rw [f1] at this
  cases this
  have := hy us q2
  rw [f2] at this
  cases this
  have n1 : F T1 = none := s2.none hT1
  have p1 : Pst F H (upd F T1 (prO us1 [x, y])) (upd H T1 (prO us1 [x, y])) := .newF s2 hT1
  have n2 : upd H T1 (prO us1 [x, y]) T2 = none := by rw [upd_ne hne.symm]; exact hT2
  have rr : Rep w (upd F T1 (prO us1 [x, y])) (.ref T1) (.tup [d1, d2]) := rep_pair (H := H) n1 (g1.mono s1) (g2.mono s1)
  have p2 := Pst.newF (o := prO us2 [.int (i : Nat), .ref T1]) p1.fh n2
  refine ⟨_, p1.trans p2, ?_⟩
  have e0 : ((0 + i : Nat) : Int) = ((i : Nat) : Int) := by omega
  rw [e0]
  exact rep_pair (H := upd H T1 (prO us1 [x, y])) (p1.fh.none n2) (.int _) rr
def iEnumZ (K : PySem.W.Frag) (ta : TA) : TI := fun σ H R => ta σ H fun vs H1 => ∃ k l xs ys, vs = [SK.v k, SK.v l] ∧ SK.At K k H1 xs ∧ SK.At K l H1 ys ∧ R (IteZ K k l) H1
section
variable {E : En} {X : Cx} {cx : Cxs} {W : WX} {σ : L2.St} {H : Hp}
theorem enumZ_ok (hw : E.w.K = X.K) {a b : Ex} {R : L2.It → Hp → Prop} (h : tI E cx W (.enum (.zip (.seq a) (.seq b))) σ H R) : iEnumZ X.K (tCons (tE E cx W a) (tCons (tE E cx W b) tNil)) σ H R := by
  obtain ⟨s, F, own, rs, p⟩ := h
  have p' : Post E.w cx W (a.noio && b.noio) σ F H own ((((evE E.gl E.call a s).bind fun x s => IL.R.of (itemsD x.1) s).bind fun xs s => ((evE E.gl E.call b s).bind fun x s => IL.R.of (itemsD x.1) s).bind fun ys s => .ok (zipL xs ys) s).bind fun xs s => .ok (enumL 0 xs) s) (fun ds _ F' H' _ => ∀ J, WalkD E.w F' J ds → R J H') := p
  rw [IL.R.bind_assoc, IL.R.bind_assoc] at p'
  refine ⟨s, F, own, rs, p'.bnd (n2 := b.noio) and_nz fun x s1 F1 H1 own1 f1 rs1 k1 vx hx => ?_⟩
  obtain ⟨F2, sf, f2, rs2, hr⟩ := hx.frz f1 rs1
  have p2 := k1 F2 f2
  cases e2 : itemsD x.1 with
  | none => rw [e2] at p2; exact p2.elim
  | some ds =>
    rw [e2] at p2
    obtain ⟨k, vs, rfl, hk⟩ := kOf_of hr e2
    have p3 : Post E.w cx W b.noio σ F2 H1 own1 ((evE E.gl E.call b s1).bind fun x s => (IL.R.of (itemsD x.1) s).bind fun ys s => .ok (enumL 0 (zipL ds ys)) s) (fun ds _ F' H' _ => ∀ J, WalkD E.w F' J ds → R J H') := by
      have p4 : Post E.w cx W b.noio σ F2 H1 own1 ((((evE E.gl E.call b s1).bind fun x s => IL.R.of (itemsD x.1) s).bind fun ys s => .ok (zipL ds ys) s).bind fun xs s => .ok (enumL 0 xs) s) (fun ds _ F' H' _ => ∀ J, WalkD E.w F' J ds → R J H') := p2
      rw [IL.R.bind_assoc, IL.R.bind_assoc] at p4
      exact p4
    refine ⟨s1, F2, own1, rs2, p3.bnd (n2 := true) (fun z => ⟨z, rfl⟩) fun y s3 F3 H3 own3 f3 rs3 k3 vy hy => ?_⟩
    obtain ⟨F4, sf4, f4, rs4, hr4⟩ := hy.frz f3 rs3
    have p4 := k3 F4 f4
    cases e4 : itemsD y.1 with
    | none => rw [e4] at p4; exact p4.elim
    | some es =>
      rw [e4] at p4
      obtain ⟨l, us, rfl, hl⟩ := kOf_of hr4 e4
      have hk4 := hk.mono f4.ff
      exact ⟨k, l, vs, us, rfl, hw ▸ hk4.at rs4.fh, hw ▸ hl.at rs4.fh, hw ▸ Post.fin (a := enumL 0 (zipL ds es)) p4 .refl rs4 _ (walkD_enumZ hk4 hl)⟩
end
section
variable {prog : Program} {w : World} {A : Around} {E : Value → Shared → Prop} {s : Shared} {z TI TO : Addr}
theorem meets_enum_newZ : Meets (Builtin.«enumerate.__new__» ⟨[.type "enumerate", .ref z], []⟩) (fun _ R s => IsZip s.heap z TI TO .none ∧
      R (.ok (.ret (.ref s.heap.objs.size))) { s with heap := s.heap.push { cls := .type "enumerate", data := .fields #[.none, .bool false, .ref z, rawInt 0, .none, .none] } }) :=
  .of_wp fun prog w A R s h => by
    obtain ⟨hp, g, d, tk, os⟩ := s; obtain ⟨h1, h⟩ := h
    have hsub := sub_enumerate
    have q1 : ∀ {A' : Around} {E : Value → Shared → Prop} {Q : Value → Shared → Prop}, Q (.ref z) ⟨hp, g, d, tk, os⟩ → wpAny (model prog w) A' (pyIter (.ref z)) Q E ⟨hp, g, d, tk, os⟩ :=
      fun q => wpAny_pyIter_zip h1 q
    wp_walk using q1
    refine wpAny_stack_any fun st => wpAny_pure ?_
    split
    · rename_i c _ _ _ _ _
      cases (c == Value.type "enumerate")
      · wp_walk using q1
        exact ⟨_, rfl, h⟩
      · wp_walk using q1
        exact ⟨_, rfl, h⟩
    · wp_walk using q1
      exact ⟨_, rfl, h⟩
theorem enum_beginsZ {Q : Value → Shared → Prop} (h1 : IsZip s.heap z TI TO .none)
    (h : ∀ h', IsEnum h' s.heap.objs.size z 0 .none → h'.objs.size = s.heap.objs.size + 1 →
      (∀ b o, s.heap.get? b = some o → h'.get? b = some o) → Q (.ref s.heap.objs.size) { s with heap := h' }) :
    wpAny (model prog w) A (call (.type "enumerate") [.ref z]) Q E s := by
  refine callType_new F.called_enumerate (by decide) (F.typeCall_enumerate_1 _) (F.newCall_enumerate_1 _) (fun obj => F.args_object_init_2 obj _) F.entry_enumerate_new
    (meets_enum_newZ (TI := TI) (TO := TO)) ⟨h1, ?_⟩
  have he : IsEnum (s.heap.push { cls := .type "enumerate", data := .fields #[.none, .bool false, .ref z, rawInt 0, .none, .none] }) s.heap.objs.size z 0 .none := Heap.get?_push_size s.heap rfl
  refine ⟨⟨_, he, rfl⟩, h _ he (by rw [Heap.size_push]) fun b o x => Heap.get?_push_of_some _ x⟩
end
theorem pi_enumZ {X : Cx} {e e2 : Expr} {ta : TA} {p p2 pos pos2 tpos : Pos} {elts : List Expr} {kk : Nat} (hg : Gl X "enumerate") (hm : X.mg "enumerate" = none) (hg2 : Gl X "zip") (hm2 : X.mg "zip" = none) (ha : PA X [e, e2] ta)
    (hs : starEach [e, e2] X.env = (false, eval e X.env) :: starEach [e2] X.env) (hpl : (backTo pos2 (starEach [e2] X.env)).any (·.1) = false) :
    PI X (.Tuple elts kk tpos) (.Call (.Name "enumerate" p) [.Call (.Name "zip" p2) [e, e2] [] pos2] [] pos) (iEnumZ X.K ta) := by
  refine ⟨fun pins s σ H R I h => ?_⟩
  refine Call_ (ld_blt I hg hm PyProof.Rows.boot_enumerate (PyProof.Rows.callWith_type1 ?_ rfl rfl))
  show wpAny _ _ (spliced ((false, eval (.Call (.Name "zip" p2) [e, e2] [] pos2) X.env) :: [])) _ _ s
  refine Calls.spliced_cons (Call_ (ld_blt I hg2 hm2 PyProof.Rows.boot_zip (PyProof.Rows.callWith_type1 (thn (ha.run pos2 pins s σ H _ I h) fun us s1 ⟨vs, H1, I1, r1, q1⟩ => ?_) hs hpl)))
  obtain ⟨k, l, xs, ys, ex, hqx, hqy, q⟩ := q1
  subst ex
  cases r1 with
  | cons r rr =>
    cases rr with
    | cons r' rr =>
      cases rr
      obtain ⟨u, rfl⟩ := SK.rel r
      obtain ⟨u2, rfl⟩ := SK.rel r'
      obtain ⟨Hh, B, hB⟩ := SK.begins (u := u) I1 hqx
      obtain ⟨Hh2, B2, hB2⟩ := SK.begins (u := u2) I1 hqy
      have hlt := SK.ad_lt I1 hqx
      have hlt2 := SK.ad_lt I1 hqy
      generalize hN : s1.heap.objs.size = N at hlt hlt2
      refine zip_begins2 B B2 hB hB2 fun h' hz hTI hTO h1 h2 hsz hk => Calls.spliced_nil ?_
      rw [hN] at hz hTI hTO h1 h2 hsz
      rw [hN]
      refine enum_beginsZ (s := { s1 with heap := h' }) hz fun h'' he hsz2 hk2 => wpAny_pyIter_enum he ?_
      replace he : IsEnum h'' h'.objs.size (N + 4) 0 .none := he
      replace hk2 : ∀ b o, h'.get? b = some o → h''.get? b = some o := hk2
      rw [hsz] at he
      have I2 : Inv X pins σ H1 { s1 with heap := h'' } := I1.kept (t' := s1.toks) fun b o q => hk2 b o (hk b o q)
      have fre : ∀ c, c = N + 5 ∨ c = N + 4 ∨ c = N + 2 ∨ c = N + 3 ∨ c = N ∨ c = N + 1 → N ≤ c := fun c e' => by rcases e' with z | z | z | z | z | z <;> omega
      refine ⟨N + 5, [N + 5, N + 4, N + 2, N + 3, N, N + 1], _, _, H1, by show Value.ref h'.objs.size = _; rw [hsz], I2, turn_enumZ (u := u) (u2 := u2) (zip_sep2 hlt hlt2) (fun hb => Nat.lt_irrefl _ (hlt _ hb)) (fun hb => Nat.lt_irrefl _ (Nat.lt_trans (Nat.lt_succ_self _) (hlt2 _ hb)))
        (show (N + 5 : Nat) ≠ N + 4 by omega) (show (N + 5 : Nat) ≠ N + 3 by omega) (show (N + 5 : Nat) ≠ N by omega) (show (N + 5 : Nat) ≠ N + 1 by omega) (show (N + 5 : Nat) ≠ N + 2 by omega) (fun hb => absurd (hlt _ hb) (show ¬ (N + 5 : Nat) < N by omega)) (fun hb => absurd (hlt2 _ hb) (show ¬ (N + 5 : Nat) < N by omega)),
        ⟨⟨.none, he⟩, ⟨⟨.none, false, .inl rfl, hk2 _ _ hz⟩, hk2 _ _ hTI, _, _, hk2 _ _ hTO⟩, SK.st0 (hk2 _ _ h1), SK.st0 (hk2 _ _ h2)⟩, fun c hcm => ?_, q⟩
      have hle : s1.heap.objs.size ≤ c := by rw [hN]; exact fre c (by simpa using hcm)
      exact I1.fpOk hle (I1.hok.fresh hle)
end IL
end
section
set_option maxHeartbeats 4000000
namespace IL
open PySem PySem.Spec PyProof.Rows L2
theorem wipeS_len (s : Sg) : ∀ vs : List Nat, (wipeS s vs).length = s.length
  | [] => rfl
  | v :: vs => by unfold wipeS; rw [List.length_set, wipeS_len s vs]
theorem wipeS_out {s : Sg} {i : Nat} : ∀ {vs : List Nat}, i ∉ vs → (wipeS s vs)[i]? = s[i]?
  | [], _ => rfl
  | v :: vs, h => by
    unfold wipeS
    rw [List.getElem?_set_ne (fun e => h (by rw [e]; exact List.mem_cons_self))]
    exact wipeS_out fun m => h (List.mem_cons_of_mem _ m)
theorem wipeS_in {s : Sg} {i : Nat} {x : Slot} : ∀ {vs : List Nat}, i ∈ vs → (wipeS s vs)[i]? = some x → x = .un
  | v :: vs, h, e => by
    unfold wipeS at e
    by_cases hv : v = i
    · subst hv
      by_cases hl : v < (wipeS s vs).length
      · rw [List.getElem?_set_self hl] at e; cases e; rfl
      · rw [List.getElem?_eq_none (by simpa using hl)] at e; cases e
    · rw [List.getElem?_set_ne hv] at e
      rcases List.mem_cons.mp h with h | h
      · exact absurd h.symm hv
      · exact wipeS_in h e
theorem wipe_in {σ : L2.St} {i : Nat} (hi : i < σ.length) : ∀ {vs : List Nat}, i ∈ vs → (wipe σ vs)[i]? = some none
  | v :: vs, h => by
    unfold wipe
    by_cases hv : v = i
    · subst hv
      rw [List.getElem?_set_self (by rw [wipe_length]; exact hi)]
    · rw [List.getElem?_set_ne hv]
      rcases List.mem_cons.mp h with h | h
      · exact absurd h.symm hv
      · exact wipe_in hi h
theorem wipe_ext {σ σ2 : L2.St} {vs : List Nat} (hl : σ2.length = σ.length) (h : ∀ j, j ∉ vs → σ2[j]? = (wipe σ vs)[j]?) : wipe σ2 vs = wipe σ vs := by
  refine List.ext_getElem? fun j => ?_
  by_cases hj : j ∈ vs
  · by_cases hlt : j < σ.length
    · rw [wipe_in (by rw [hl]; exact hlt) hj, wipe_in hlt hj]
    · rw [List.getElem?_eq_none (by rw [wipe_length]; omega), List.getElem?_eq_none (by rw [wipe_length]; omega)]
  · rw [wipe_out hj, h j hj, wipe_out hj]
theorem backS_len (t s : Sg) : ∀ vs : List Nat, (backS t s vs).length = s.length
  | [] => rfl
  | v :: vs => by unfold backS; rw [List.length_set, backS_len t s vs]
theorem backS_out {t s : Sg} {i : Nat} : ∀ {vs : List Nat}, i ∉ vs → (backS t s vs)[i]? = s[i]?
  | [], _ => rfl
  | v :: vs, h => by
    unfold backS
    rw [List.getElem?_set_ne (fun e => h (by rw [e]; exact List.mem_cons_self))]
    exact backS_out fun m => h (List.mem_cons_of_mem _ m)
theorem backS_in {t s : Sg} {i : Nat} {x : Slot} : ∀ {vs : List Nat}, i ∈ vs → (backS t s vs)[i]? = some x → x = t.getD i .un
  | v :: vs, h, e => by
    unfold backS at e
    by_cases hv : v = i
    · subst hv
      by_cases hl : v < (backS t s vs).length
      · rw [List.getElem?_set_self hl] at e; cases e; rfl
      · rw [List.getElem?_eq_none (by simpa using hl)] at e; cases e
    · rw [List.getElem?_set_ne hv] at e
      rcases List.mem_cons.mp h with h | h
      · exact absurd h.symm hv
      · exact backS_in h e
def ownOff (own : Nat → List Addr) (vs : List Nat) : Nat → List Addr := fun i => if i ∈ vs then [] else own i
def ownBack (t own : Nat → List Addr) (vs : List Nat) : Nat → List Addr := fun i => if i ∈ vs then t i else own i
section
variable {w : Wo} {cx : Cxs} {s : Sg} {F H F1 H1 F' H' : Hp} {σ : L2.St} {own own1 own' : Nat → List Addr} {vs : List Nat} {nz : Bool}
theorem ownOff_sub {i : Nat} {a : Addr} (h : a ∈ ownOff own vs i) : a ∈ own i ∧ i ∉ vs := by
  unfold ownOff at h
  split at h
  · cases h
  · exact ⟨h, by assumption⟩
theorem ownOff_out {i : Nat} (h : i ∉ vs) : ownOff own vs i = own i := if_neg h
theorem RS.wipe (rs : RS w cx s F σ H own) (vs : List Nat) : RS w cx (wipeS s vs) F (L2.wipe σ vs) H (ownOff own vs) := by
  refine ⟨by rw [wipeS_len, wipe_length]; exact rs.len, rs.fh, fun i x e => ?_, fun i hi => ?_, fun i => ?_, fun i j a hij ha hb => ?_⟩
  · by_cases hv : i ∈ vs
    · have := wipeS_in hv e
      subst this
      have hi : i < σ.length := by
        have := (List.getElem?_eq_some_iff.mp e).1
        rw [wipeS_len] at this
        rw [← rs.len]; exact this
      refine ⟨none, wipe_in hi hv, ?_⟩
      unfold ownOff
      rw [if_pos hv]
      exact .un _
    · rw [wipeS_out hv] at e
      obtain ⟨o, e1, r⟩ := rs.sl i x e
      exact ⟨o, by rw [wipe_out hv]; exact e1, by rw [ownOff_out hv]; exact r⟩
  · unfold ownOff
    split
    · rfl
    · exact rs.out i (by rw [wipeS_len] at hi; exact hi)
  · unfold ownOff
    split
    · exact List.nodup_nil
    · exact rs.nd i
  · exact rs.dj i j a hij (ownOff_sub ha).1 (ownOff_sub hb).1
/-- the names are back, their own lists with them -/
theorem RS.backV {s0 : Sg} (rs : RS w cx s0 F1 σ H1 own1) (f : Frm nz F1 H1 (ownOff own1 vs) F H own) (rs' : RS w cx s F (L2.wipe σ vs) H own) : RS w cx (backS s0 s vs) F σ H (ownBack own1 own vs) ∧ Frm nz F1 H1 own1 F H (ownBack own1 own vs) := by
  have keep : ∀ i, i ∈ vs → ∀ a ∈ own1 i, ∀ o, H1 a = some o → H a = some o ∧ F a = none := fun i hi a ha o ho => by
    have hn : ∀ j, a ∉ ownOff own1 vs j := fun j hj => by
      obtain ⟨h1, h2⟩ := ownOff_sub hj
      exact rs.dj i j a (fun e => h2 (e ▸ hi)) ha h1
    obtain ⟨h1, h2⟩ := f.hh a o ho hn
    exact ⟨h1, h2 (rs.owned ha).2⟩
  have cross : ∀ i j a, i ∈ vs → j ∉ vs → a ∈ own1 i → a ∈ own j → False := fun i j a hi hj ha hb => by
    rcases f.oo j a hb with z | z
    · rw [ownOff_out hj] at z
      exact rs.dj i j a (fun e => hj (e ▸ hi)) ha z
    · obtain ⟨⟨o, e⟩, _⟩ := rs.owned ha
      rw [z] at e; cases e
  have hlen : s.length = s0.length := by rw [rs'.len, wipe_length, rs.len]
  refine ⟨⟨by rw [backS_len, rs'.len, wipe_length], rs'.fh, fun i x e => ?_, fun i hi => ?_, fun i => ?_, fun i j a hij ha hb => ?_⟩, ⟨f.ff, fun a o ho hno => ?_, f.hn, fun i a ha => ?_, fun z i a ha => ?_, f.dm⟩⟩
  · by_cases hv : i ∈ vs
    · have hx := backS_in hv e
      have hi : i < s0.length := by
        have := (List.getElem?_eq_some_iff.mp e).1
        rw [backS_len, hlen] at this; exact this
      have e0 : s0[i]? = some x := by
        rw [hx, List.getD_eq_getElem?_getD, List.getElem?_eq_getElem hi]; rfl
      obtain ⟨o, e1, r⟩ := rs.sl i x e0
      refine ⟨o, e1, ?_⟩
      unfold ownBack
      rw [if_pos hv]
      exact r.step f.ff fun a ha u q => keep i hv a ha u q
    · rw [backS_out hv] at e
      obtain ⟨o, e1, r⟩ := rs'.sl i x e
      rw [wipe_out hv] at e1
      refine ⟨o, e1, ?_⟩
      unfold ownBack
      rw [if_neg hv]; exact r
  · rw [backS_len] at hi
    unfold ownBack
    split
    · exact rs.out i (by omega)
    · exact rs'.out i hi
  · unfold ownBack
    split
    · exact rs.nd i
    · exact rs'.nd i
  · unfold ownBack at ha hb
    split at ha <;> split at hb
    · exact rs.dj i j a hij ha hb
    · exact cross i j a (by assumption) (by assumption) ha hb
    · exact cross j i a (by assumption) (by assumption) hb ha
    · exact rs'.dj i j a hij ha hb
  · exact f.hh a o ho fun i hi => hno i (ownOff_sub hi).1
  · unfold ownBack at ha
    split at ha
    · exact .inl ha
    · rcases f.oo i a ha with z | z
      · exact .inl (ownOff_sub z).1
      · exact .inr z
  · unfold ownBack at ha
    split at ha
    · exact ha
    · exact (ownOff_sub (f.on z i a ha)).1
theorem Frm.sub (f : Frm nz F1 H1 own1 F H own) (h : ∀ i a, a ∈ own' i → a ∈ own i) : Frm nz F1 H1 own1 F H own' :=
  ⟨f.ff, f.hh, f.hn, fun i a ha => f.oo i a (h i a ha), fun z i a ha => f.on z i a (h i a ha), f.dm⟩
/-- a new object's contents do not matter to what stood before it -/
theorem Frm.chg {D : Addr} {o : HO} (f : Frm nz F1 H1 own1 F H own) (hD : H1 D = none) : Frm nz F1 H1 own1 F (upd H D o) own :=
  ⟨f.ff, fun a u h hn => ⟨by rw [upd_ne (ne_of_none h hD)]; exact (f.hh a u h hn).1, (f.hh a u h hn).2⟩, fun z a u h => by rw [upd_ne (ne_of_none h hD)]; exact f.hn z a u h, f.oo, f.on,
    fun a h => by
      by_cases ha : a = D
      · rw [ha]; exact hD
      · rw [upd_ne ha] at h; exact f.dm a h⟩
theorem RS.chgD {D : Addr} {o : HO} (rs : RS w cx s F σ H own) (hF : F D = none) (hn : ∀ j, D ∉ own j) : RS w cx s F σ (upd H D o) own := by
  refine ⟨rs.len, fun a u h => by rw [upd_ne (ne_of_none h hF)]; exact rs.fh a u h, fun i x e => ?_, rs.out, rs.nd, rs.dj⟩
  obtain ⟨v, e1, r⟩ := rs.sl i x e
  refine ⟨v, e1, r.step (.refl _) fun a ha u q => ⟨?_, (r.owned a ha).2⟩⟩
  rw [upd_ne (fun z => by rw [z] at ha; exact hn i ha)]; exact q
end
/-- a dict's keys -/
def keysP : List IL.D → List Str
  | .tup [.str k, _] :: r => k :: keysP r
  | _ => []
/-- what stands at the new object: a list, or a dict -/
def obK : Bool → List IL.D → List V → HO
  | false, _, acc => .lst acc
  | true, ads, acc => .dK (((keysP ads).map Sum.inr).zip acc)
def rpK (w : Wo) (F : Hp) : Bool → List V → List IL.D → Prop
  | false, acc, ads => Reps w F acc ads
  | true, acc, ads => ∃ ds, ads = pr (keysP ads) ds ∧ Reps w F acc ds ∧ (keysP ads).length = acc.length
theorem rpK_mono {w : Wo} {F F' : Hp} (s : Sub F F') : ∀ {dk : Bool} {acc : List V} {ads : List IL.D}, rpK w F dk acc ads → rpK w F' dk acc ads
  | false, _, _, h => Reps.mono s h
  | true, _, _, ⟨ds, h1, h2, h3⟩ => ⟨ds, h1, h2.mono s, h3⟩
theorem keysP_pr : ∀ {ks : List Str} {ds : List IL.D}, ks.length = ds.length → keysP (pr ks ds) = ks
  | [], _, _ => by simp [pr, keysP]
  | k :: ks, d :: ds, h => by simp only [pr, keysP]; rw [keysP_pr (by simpa using h)]
  | _ :: _, [], h => by simp at h
theorem pr_len : ∀ {ks : List Str} {ds : List IL.D}, ks.length = ds.length → (pr ks ds).length = ks.length
  | [], _, _ => by simp [pr]
  | k :: ks, d :: ds, h => by simp only [pr, List.length_cons]; rw [pr_len (by simpa using h)]
  | _ :: _, [], h => by simp at h
theorem hasP_pr {k : Str} : ∀ {ks : List Str} {vs : List V} {ds : List IL.D}, ks.length = vs.length → ks.length = ds.length → (((ks.map Sum.inr).zip vs).any fun kv => decide (kv.1 = (Sum.inr k : Key))) = hasP k (pr ks ds)
  | [], _, _, _, _ => by simp [pr, hasP]
  | j :: ks, v :: vs, d :: ds, h1, h2 => by
    simp only [List.map_cons, List.zip_cons_cons, List.any_cons, pr, hasP]
    rw [hasP_pr (k := k) (ks := ks) (vs := vs) (ds := ds) (by simpa using h1) (by simpa using h2)]
    congr 1
    by_cases hj : j = k
    · subst hj; simp
    · rw [decide_eq_false (fun z => hj (Sum.inr.inj z))]
      exact (beq_eq_false_iff_ne.mpr hj).symm
  | _ :: _, [], _, h, _ => by simp at h
  | _ :: _, _ :: _, [], _, h => by simp at h
theorem setP_pr {w : Wo} {F : Hp} {k : Str} {v : V} {d : IL.D} (hv : Rep w F v d) : ∀ {ks : List Str} {vs : List V} {ds : List IL.D}, Reps w F vs ds → ks.length = vs.length →
    ∃ vs' ds', setP k d (pr ks ds) = pr ks ds' ∧ Reps w F vs' ds' ∧ ks.length = vs'.length ∧ ((ks.map Sum.inr).zip vs).map (fun kv => if kv.1 = (Sum.inr k : Key) then (kv.1, v) else kv) = (ks.map Sum.inr).zip vs'
  | [], [], [], .nil, _ => ⟨[], [], by simp [pr, setP], .nil, rfl, rfl⟩
  | j :: ks, u :: vs, e :: ds, .cons h r, hk => by
    obtain ⟨vs', ds', e1, r1, h1, h2⟩ := setP_pr (k := k) hv r (by simpa using hk)
    by_cases hj : j = k
    · subst hj
      exact ⟨v :: vs', d :: ds', by simp [pr, setP, e1], .cons hv r1, by simpa using h1, by simp [h2]⟩
    · refine ⟨u :: vs', e :: ds', by simp [pr, setP, e1, hj], .cons h r1, by simpa using h1, ?_⟩
      simp only [List.map_cons, List.zip_cons_cons]
      rw [h2, if_neg (fun z => hj (Sum.inr.inj z))]
  | _ :: _, [], _, _, hk => by simp at hk
theorem pr_app : ∀ {ks : List Str} {ds : List IL.D} {k : Str} {d : IL.D}, ks.length = ds.length → pr ks ds ++ [.tup [.str k, d]] = pr (ks ++ [k]) (ds ++ [d])
  | [], [], _, _, _ => by simp [pr]
  | k :: ks, d :: ds, _, _, h => by simp only [pr, List.cons_append]; rw [pr_app (by simpa using h)]
  | _ :: _, [], _, _, h => by simp at h
  | [], _ :: _, _, _, h => by simp at h
/-- one more entry, or another value at an entry -/
theorem put_pr {w : Wo} {F : Hp} {k : Str} {v : V} {d : IL.D} (hv : Rep w F v d) {ks : List Str} {vs : List V} {ds : List IL.D} (r : Reps w F vs ds) (hk : ks.length = vs.length) :
    ∃ ks' vs' ds', putP k d (pr ks ds) = pr ks' ds' ∧ Reps w F vs' ds' ∧ ks'.length = vs'.length ∧ vs'.length ≤ vs.length + 1 ∧ putK ((ks.map Sum.inr).zip vs) (Sum.inr k : Key) v = (ks'.map Sum.inr).zip vs' := by
  have hd : ks.length = ds.length := by rw [hk, r.length]
  have hh := hasP_pr (k := k) hk hd
  unfold putP putK
  rw [hh]
  cases hasP k (pr ks ds) with
  | true =>
    obtain ⟨vs', ds', e1, r1, h1, h2⟩ := setP_pr (k := k) hv r hk
    exact ⟨ks, vs', ds', by simpa using e1, r1, h1, by omega, by simpa using h2⟩
  | false =>
    refine ⟨ks ++ [k], vs ++ [v], ds ++ [d], by simpa using pr_app hd, r.snoc hv, by simp [hk], by simp, ?_⟩
    rw [List.map_append, List.zip_append (by rw [List.length_map]; exact hk)]
    simp
/-- what is made so far stands in the new list at D -/
structure LcI (dk : Bool) (w : Wo) (cx : Cxs) (F1 H1 : Hp) (ownW : Nat → List Addr) (nz : Bool) (D : Addr) (Fw : Hp) (σ : L2.St) (H : Hp) (ads : List IL.D) (s : Sg) (F : Hp) (own : Nat → List Addr) (acc : List V) : Prop where
  rs : RS w cx s F σ H own
  fr : Frm nz F1 H1 ownW F H own
  hD : H D = some (obK dk ads acc)
  fD : F D = none
  nD : ∀ j, D ∉ own j
  rp : rpK w F dk acc ads
  hl : acc.length ≤ limN
  sw : Sub Fw F
def PD {α : Type} (Dn : α → Sg → Prop) : R α → Prop
  | .ok a s => Dn a s
  | _ => False
section
variable {dk : Bool} {w : Wo} {cx : Cxs} {F1 H1 : Hp} {ownW : Nat → List Addr} {nz : Bool} {D : Addr} {Fw : Hp} {σ : L2.St} {H : Hp} {ads : List IL.D} {s : Sg} {F : Hp} {own : Nat → List Addr} {acc : List V} {α β : Type}
theorem PD.bnd {Dn : α → Sg → Prop} {r : R β} {f : β → Sg → R α} {n : Bool} {K1 : β → Sg → Hp → Hp → (Nat → List Addr) → Prop} (h : PD Dn (r.bind f)) (k : ∀ a s1 F1 H1 own1, Frm n F H own F1 H1 own1 → RS w cx s1 F1 σ H1 own1 → PD Dn (f a s1) → K1 a s1 F1 H1 own1) :
    Post w cx (fun _ _ _ _ => False) n σ F H own r K1 := by
  cases r with
  | bad => exact h
  | ex c x s => exact h.elim
  | ok a s1 => exact fun F1 H1 own1 f1 rs1 => k a s1 F1 H1 own1 f1 rs1 h
/-- behind an evaluation in the block -/
theorem LcI.step {n : Bool} {s1 : Sg} {F2 H2 : Hp} {own2 : Nat → List Addr} (I : LcI dk w cx F1 H1 ownW nz D Fw σ H ads s F own acc) (hn : nz = true → n = true) (f : Frm n F H own F2 H2 own2) (rs : RS w cx s1 F2 σ H2 own2) : LcI dk w cx F1 H1 ownW nz D Fw σ H2 ads s1 F2 own2 acc := by
  obtain ⟨h1, h2⟩ := f.hh D _ I.hD I.nD
  exact ⟨rs, (I.fr.trans f).weak fun z => by rw [z, hn z]; rfl, h1, h2 I.fD, f.out I.hD I.nD, rpK_mono f.ff I.rp, I.hl, I.sw.trans f.ff⟩
/-- behind a step of the walk -/
theorem LcI.pst {F2 H2 : Hp} (I : LcI dk w cx F1 H1 ownW nz D Fw σ H ads s F own acc) (p : Pst F H F2 H2) : LcI dk w cx F1 H1 ownW nz D Fw σ H2 ads s F2 own acc :=
  I.step (n := nz) (fun z => z) (.pst p) (I.rs.pst p)
/-- names stored -/
theorem LcI.store {σ' : L2.St} {s' : Sg} {own' : Nat → List Addr} (I : LcI dk w cx F1 H1 ownW nz D Fw σ H ads s F own acc) (rs : RS w cx s' F σ' H own') (h : ∀ j a, a ∈ own' j → a ∈ own j) : LcI dk w cx F1 H1 ownW nz D Fw σ' H ads s' F own' acc :=
  ⟨rs, I.fr.sub h, I.hD, I.fD, fun j hj => I.nD j (h j D hj), I.rp, I.hl, I.sw⟩
theorem LcI.wipe (I : LcI dk w cx F1 H1 ownW nz D Fw σ H ads s F own acc) (vs : List Nat) : LcI dk w cx F1 H1 ownW nz D Fw (L2.wipe σ vs) H ads (wipeS s vs) F (ownOff own vs) acc :=
  I.store (I.rs.wipe vs) fun _ _ h => (ownOff_sub h).1
theorem LcI.frz {F2 : Hp} (I : LcI dk w cx F1 H1 ownW nz D Fw σ H ads s F own acc) (sf : Sub F F2) (f : Frm nz F H own F2 H own) (rs : RS w cx s F2 σ H own) : LcI dk w cx F1 H1 ownW nz D Fw σ H ads s F2 own acc :=
  I.step (n := nz) (fun z => z) f rs
/-- one more item -/
theorem LcI.app {v : V} {d : IL.D} (I : LcI false w cx F1 H1 ownW nz D Fw σ H ads s F own acc) (h0 : H1 D = none) (r : Rep w F v d) (hl : ads.length < limN) : LcI false w cx F1 H1 ownW nz D Fw σ (upd H D (.lst (acc ++ [v]))) (ads ++ [d]) s F own (acc ++ [v]) :=
  ⟨I.rs.chgD I.fD I.nD, I.fr.chg h0, upd_same, I.fD, I.nD, Reps.snoc I.rp r, by rw [List.length_append, Reps.length I.rp]; exact hl, I.sw⟩
/-- one more entry -/
theorem LcI.putD {k : Str} {v : V} {d : IL.D} (I : LcI true w cx F1 H1 ownW nz D Fw σ H ads s F own acc) (h0 : H1 D = none) (r : Rep w F v d) (hl : ads.length < limN) : ∃ acc' kvs, H D = some (.dK kvs) ∧ kvs.length < sizeLine ∧ LcI true w cx F1 H1 ownW nz D Fw σ (upd H D (.dK (putK kvs (Sum.inr k) v))) (putP k d ads) s F own acc' := by
  obtain ⟨ds, h1, h2, h3⟩ := I.rp
  have hdl : (keysP ads).length = ds.length := by rw [h3, h2.length]
  obtain ⟨ks', vs', ds', e1, r1, k1, l1, p1⟩ := put_pr (k := k) r h2 h3
  have hlen : acc.length = ads.length := by
    have e2 := congrArg List.length h1
    rw [pr_len hdl] at e2
    omega
  have hkk : keysP (pr ks' ds') = ks' := keysP_pr (by rw [k1, r1.length])
  refine ⟨vs', _, I.hD, ?_, ⟨I.rs.chgD I.fD I.nD, I.fr.chg h0, ?_, I.fD, I.nD, ⟨ds', ?_, r1, ?_⟩, by omega, I.sw⟩⟩
  · rw [List.length_zip, List.length_map, h3, Nat.min_self, hlen]
    exact Nat.lt_of_lt_of_le hl limN_le
  · rw [p1, h1, e1]
    show upd H D _ D = some (.dK (((keysP (pr ks' ds')).map Sum.inr).zip vs'))
    rw [hkk]; exact upd_same
  · rw [h1, e1, hkk]
  · rw [h1, e1, hkk]; exact k1
end
/-- a turn's tests -/
def tCn (E : En) (cx : Cxs) (W : WX) (c : Oex) : TT := fun σ H Q => ∃ s F own, RS E.w cx s F σ H own ∧ Post E.w cx W c.noio σ F H own (evC E.gl E.call c s) (KTr Q)
abbrev WF : WX := fun _ _ _ _ => False
section
variable {dk : Bool} {E : En} {cx : Cxs} {F1 H1 : Hp} {ownW : Nat → List Addr} {nz : Bool} {D : Addr} {σ : L2.St} {H0 : Hp} {Fin : Hp → Prop} {Dn : List IL.D → Sg → Prop} {t : Tg} {vs : List Nat} {Fw : Hp} {J : L2.It} {ds : List IL.D}
/-- a comprehension's loop, Kt: what is behind the target -/
theorem lc_loopG {kb : List IL.D → Sg → R (List IL.D)} {Kt : L2.St → Hp → (Hp → Prop) → Prop} {ads0 : List IL.D} {s0 : Sg} {F0 : Hp} {own0 : Nat → List Addr} {acc0 : List V} (hJ : ∀ (i : Nat) (F H : Hp) (ads : List IL.D) (s : Sg) (own : Nat → List Addr) (acc : List V), LcI dk E.w cx F1 H1 ownW nz D Fw (L2.wipe σ vs) H ads s F own acc → (∀ d, ds[i]? = some d → J.go i H ∧ ∀ x H', J.yld i H x H' → ∃ F', Pst F H F' H' ∧ Rep E.w F' x d) ∧ (i = ds.length → J.stop i H)) (ht : ∀ j, t.has j = true → j ∈ vs)
    (hKt : ∀ (Dn' : List IL.D → Sg → Prop) (ads : List IL.D) (s1 : Sg) (σ2 : L2.St) (H2 : Hp) (F : Hp) (own : Nat → List Addr) (acc : List V) (Nx : Hp → Prop), LcI dk E.w cx F1 H1 ownW nz D Fw σ2 H2 ads s1 F own acc → PD Dn' (kb ads s1) →
      (∀ σ3 ads' s' H' F' own' acc', L2.wipe σ3 vs = L2.wipe σ2 vs → LcI dk E.w cx F1 H1 ownW nz D Fw σ3 H' ads' s' F' own' acc' → Dn' ads' s' → Nx H') → Kt σ2 H2 Nx)
    (hFin : ∀ ads s' H F own acc, LcI dk E.w cx F1 H1 ownW nz D Fw (L2.wipe σ vs) H ads s' F own acc → Dn ads s' → Fin H)
    (I0 : LcI dk E.w cx F1 H1 ownW nz D Fw (L2.wipe σ vs) H0 ads0 s0 F0 own0 acc0) (p0 : PD Dn (lcR (lcB vs t kb) ds ads0 s0)) :
    ∃ W : Nat → Nat → Hp → Prop, (∃ m, W 0 m H0) ∧ ∀ i m H, W i m H →
      (J.stop i H ∧ Fin H) ∨ (J.go i H ∧ ∃ Nx : Hp → Prop, (∀ H', Nx H' → ∃ m', m' < m ∧ W (i + 1) m' H') ∧ ∀ x H', J.yld i H x H' → tG E cx t x (L2.wipe σ vs) H' fun σ2 H2 => L2.wipe σ2 vs = L2.wipe σ vs ∧ Kt σ2 H2 Nx) := by
  refine ⟨fun i m H => m = ds.length - i ∧ i ≤ ds.length ∧ ∃ ads s F own acc, LcI dk E.w cx F1 H1 ownW nz D Fw (L2.wipe σ vs) H ads s F own acc ∧ PD Dn (lcR (lcB vs t kb) (ds.drop i) ads s), ⟨ds.length, by simp, Nat.zero_le _, ads0, s0, F0, own0, acc0, I0, by simpa using p0⟩, ?_⟩
  rintro i m H ⟨rfl, hi, ads, s, F, own, acc, I, p⟩
  obtain ⟨hgo, hstop⟩ := hJ i F H ads s own acc I
  by_cases hlt : i < ds.length
  · obtain ⟨go, yl⟩ := hgo ds[i] (List.getElem?_eq_getElem hlt)
    let Nx : Hp → Prop := fun H => ∃ ads s F own acc, LcI dk E.w cx F1 H1 ownW nz D Fw (L2.wipe σ vs) H ads s F own acc ∧ PD Dn (lcR (lcB vs t kb) (ds.drop (i + 1)) ads s)
    refine .inr ⟨go, Nx, fun H' h => ⟨ds.length - (i + 1), by omega, rfl, hlt, h⟩, fun x H' y => ?_⟩
    obtain ⟨F', ps, hr⟩ := yl x H' y
    have I' := I.pst ps
    rw [List.drop_eq_getElem_cons hlt] at p
    simp only [lcR] at p
    unfold lcB at p
    cases q : asg t ds[i] s with
    | none => rw [q] at p; exact p.elim
    | some s1 =>
      rw [q] at p
      simp only [R.of_some, R.bind_ok, IL.R.bind_assoc] at p
      refine ⟨s, F', own, ds[i], s1, I'.rs, hr, q, fun σ2 own2 rs2 sub fr => ?_⟩
      have hw : L2.wipe σ2 vs = L2.wipe σ vs := by
        refine wipe_ext (by rw [fr.1, wipe_length]) fun j hj => ?_
        refine fr.2 j ?_
        cases hh : t.has j with
        | false => rfl
        | true => exact absurd (ht j hh) hj
      have I2 := I'.store rs2 sub
      cases hk : kb ads s1 with
      | bad => rw [hk] at p; exact p.elim
      | ex c x s => rw [hk] at p; exact p.elim
      | ok ads2 s2 =>
        rw [hk] at p
        refine ⟨hw, hKt (fun ads' s' => ads' = ads2 ∧ s' = s2) ads s1 σ2 H' F' own2 acc Nx I2 (by rw [hk]; exact ⟨rfl, rfl⟩) fun σ3 ads' s' H3 F3 own3 acc3 e3 I3 e => ?_⟩
        obtain ⟨rfl, rfl⟩ := e
        have I4 := I3.wipe vs
        rw [e3, hw] at I4
        exact ⟨ads', _, F3, _, acc3, I4, p⟩
  · have e : i = ds.length := by omega
    subst e
    rw [List.drop_length] at p
    exact .inl ⟨hstop rfl, hFin ads s H F own acc I p⟩
/-- a comprehension's loop, Kt: what is behind the target -/
theorem lc_loop {kb : List IL.D → Sg → R (List IL.D)} {Kt : L2.St → Hp → (Hp → Prop) → Prop} {ads0 : List IL.D} {s0 : Sg} {F0 : Hp} {own0 : Nat → List Addr} {acc0 : List V} (hJ : WalkD E.w Fw J ds) (ht : ∀ j, t.has j = true → j ∈ vs)
    (hKt : ∀ (Dn' : List IL.D → Sg → Prop) (ads : List IL.D) (s1 : Sg) (σ2 : L2.St) (H2 : Hp) (F : Hp) (own : Nat → List Addr) (acc : List V) (Nx : Hp → Prop), LcI dk E.w cx F1 H1 ownW nz D Fw σ2 H2 ads s1 F own acc → PD Dn' (kb ads s1) →
      (∀ σ3 ads' s' H' F' own' acc', L2.wipe σ3 vs = L2.wipe σ2 vs → LcI dk E.w cx F1 H1 ownW nz D Fw σ3 H' ads' s' F' own' acc' → Dn' ads' s' → Nx H') → Kt σ2 H2 Nx)
    (hFin : ∀ ads s' H F own acc, LcI dk E.w cx F1 H1 ownW nz D Fw (L2.wipe σ vs) H ads s' F own acc → Dn ads s' → Fin H)
    (I0 : LcI dk E.w cx F1 H1 ownW nz D Fw (L2.wipe σ vs) H0 ads0 s0 F0 own0 acc0) (p0 : PD Dn (lcR (lcB vs t kb) ds ads0 s0)) :
    ∃ W : Nat → Nat → Hp → Prop, (∃ m, W 0 m H0) ∧ ∀ i m H, W i m H →
      (J.stop i H ∧ Fin H) ∨ (J.go i H ∧ ∃ Nx : Hp → Prop, (∀ H', Nx H' → ∃ m', m' < m ∧ W (i + 1) m' H') ∧ ∀ x H', J.yld i H x H' → tG E cx t x (L2.wipe σ vs) H' fun σ2 H2 => L2.wipe σ2 vs = L2.wipe σ vs ∧ Kt σ2 H2 Nx) :=
  lc_loopG (fun i F H _ _ _ _ I => hJ i F H I.sw I.rs.fh) ht hKt hFin I0 p0
/-- the element, behind its test -/
theorem kt_elt {c : Oex} {e : Ex} (h0 : H1 D = none) (hc : nz = true → c.noio = true) (he : nz = true → e.noio = true) (Dn' : List IL.D → Sg → Prop) (ads : List IL.D) (s1 : Sg) (σ2 : L2.St) (H2 : Hp) (F : Hp) (own : Nat → List Addr) (acc : List V) (Nx : Hp → Prop) (I : LcI false E.w cx F1 H1 ownW nz D Fw σ2 H2 ads s1 F own acc)
    (p : PD Dn' ((evC E.gl E.call c s1).bind fun k s => if k then (evE E.gl E.call e s).bind fun y s => appR ads y.1 s else .ok ads s))
    (hN : ∀ σ3 ads' s' H' F' own' acc', L2.wipe σ3 vs = L2.wipe σ2 vs → LcI false E.w cx F1 H1 ownW nz D Fw σ3 H' ads' s' F' own' acc' → Dn' ads' s' → Nx H') :
    tCn E cx WF c σ2 H2 fun b H3 => if b = true then tE E cx WF e σ2 H3 fun y H4 => ∃ acc, H4 D = some (.lst acc) ∧ acc.length < sizeLine ∧ Nx (upd H4 D (.lst (acc ++ [y]))) else Nx H3 := by
  refine ⟨s1, F, own, I.rs, p.bnd fun b s3 F3 H3 own3 f3 rs3 p3 => ?_⟩
  have I3 := I.step hc f3 rs3
  cases b with
  | false => exact hN _ _ _ _ _ _ _ rfl I3 p3
  | true =>
    have p3 : PD Dn' ((evE E.gl E.call e s3).bind fun y s => appR ads y.1 s) := p3
    refine ⟨s3, F3, own3, rs3, p3.bnd fun y s4 F4 H4 own4 f4 rs4 p4 v hv => ?_⟩
    obtain ⟨F5, sf5, f5, rs5, hr⟩ := hv.frz f4 rs4
    have I5 := I3.step he f5 rs5
    unfold appR at p4
    split at p4
    · rename_i hl
      refine ⟨acc, I5.hD, ?_, hN _ _ _ _ _ _ _ rfl (I5.app h0 hr hl) p4⟩
      rw [Reps.length I5.rp]
      exact Nat.lt_of_lt_of_le hl limN_le
    · exact p4.elim
/-- an entry's two parts -/
theorem kt_ent {k e : Ex} (h0 : H1 D = none) (hk : nz = true → k.noio = true) (he : nz = true → e.noio = true) (Dn' : List IL.D → Sg → Prop) (ads : List IL.D) (s1 : Sg) (σ2 : L2.St) (H2 : Hp) (F : Hp) (own : Nat → List Addr) (acc : List V) (Nx : Hp → Prop) (I : LcI true E.w cx F1 H1 ownW nz D Fw σ2 H2 ads s1 F own acc)
    (p : PD Dn' ((evE E.gl E.call k s1).bind fun y s => (evE E.gl E.call e s).bind fun z s => putR ads y.1 z.1 s))
    (hN : ∀ σ3 ads' s' H' F' own' acc', L2.wipe σ3 vs = L2.wipe σ2 vs → LcI true E.w cx F1 H1 ownW nz D Fw σ3 H' ads' s' F' own' acc' → Dn' ads' s' → Nx H') :
    tE E cx WF k σ2 H2 fun y H4 => tE E cx WF e σ2 H4 fun z H5 => ∃ kvs k, y = kV k ∧ H5 D = some (.dK kvs) ∧ kvs.length < sizeLine ∧ Nx (upd H5 D (.dK (putK kvs k z))) := by
  refine ⟨s1, F, own, I.rs, p.bnd fun y s3 F3 H3 own3 f3 rs3 p3 v hv => ?_⟩
  have I3 := I.step hk f3 rs3
  have bv := hv.bor
  refine ⟨s3, F3, own3, rs3, p3.bnd fun z s4 F4 H4 own4 f4 rs4 p4 u hu => ?_⟩
  obtain ⟨F5, sf5, f5, rs5, hr⟩ := hu.frz f4 rs4
  have I5 := I3.step he f5 rs5
  unfold putR at p4
  split at p4
  · rename_i x ex
    split at p4
    · rename_i hl
      rw [ex] at bv
      obtain ⟨rfl, _, _⟩ := bv.str
      obtain ⟨acc', kvs, h1, h2, I6⟩ := I5.putD (k := x) h0 hr hl
      exact ⟨kvs, Sum.inr x, rfl, h1, h2, hN _ _ _ _ _ _ _ rfl I6 p4⟩
    · exact p4.elim
  · exact p4.elim
/-- [e for t in it if c] -/
theorem lc_ok {W : WX} {it : IL.It} {c : Oex} {e : Ex} {H : Hp} {Q : VK} (ht : ∀ j, t.has j = true → j ∈ vs) (h : tE E cx W (.lc vs t it c e) σ H Q) : tLc (tI E cx W it) (tG E cx t) (tCn E cx WF c) (tE E cx WF e) vs σ H Q := by
  obtain ⟨s, F, own, rs, p⟩ := h
  have p' : Post E.w cx W (it.noio && c.noio && e.noio) σ F H own ((evIt E.gl E.call it s).bind fun ds s0 => (noexR (lcR (lcB vs t fun acc s => (evC E.gl E.call c s).bind fun k s => if k then (evE E.gl E.call e s).bind fun y s => appR acc y.1 s else .ok acc s) ds [] (wipeS s0 vs))).bind fun ys s' => .ok (.lst ys, true) (backS s0 s' vs)) (KVal E H Q) := p
  refine ⟨s, F, own, rs, p'.bnd (n1 := it.noio) (n2 := c.noio && e.noio) (fun z => by simp only [Bool.and_eq_true] at z ⊢; exact ⟨z.1.1, z.1.2, z.2⟩) fun ds s1 F1 H1 own1 f1 rs1 k1 J hJ D hD => ?_⟩
  have p1 := k1 F1 f1
  let Dn : List IL.D → Sg → Prop := fun ys s' => ∀ F' H' own', Frm (c.noio && e.noio) F1 H1 own1 F' H' own' → RS E.w cx (backS s1 s' vs) F' σ H' own' → ∀ v, Val E.w H F' H' own' v (.lst ys) true → Q v H'
  have pd : PD Dn (lcR (lcB vs t fun acc s => (evC E.gl E.call c s).bind fun k s => if k then (evE E.gl E.call e s).bind fun y s => appR acc y.1 s else .ok acc s) ds [] (wipeS s1 vs)) := by
    revert p1
    generalize lcR (lcB vs t fun acc s => (evC E.gl E.call c s).bind fun k s => if k then (evE E.gl E.call e s).bind fun y s => appR acc y.1 s else .ok acc s) ds [] (wipeS s1 vs) = r
    intro p1
    cases r with
    | bad => exact p1
    | ex c x s => exact p1
    | ok ys s' => exact fun F' H' own' f r v hv => p1 F' H' own' f r v hv
  have rsW := rs1.wipe vs
  have hn : ∀ j, D ∉ own1 j := rs1.no hD
  refine lc_loop (dk := false) (D := D) (Dn := Dn) (nz := c.noio && e.noio) (F1 := F1) (H1 := H1) (ownW := ownOff own1 vs) (kb := fun acc s => (evC E.gl E.call c s).bind fun k s => if k then (evE E.gl E.call e s).bind fun y s => appR acc y.1 s else .ok acc s)
    (Kt := fun σ2 H2 Nx => tCn E cx WF c σ2 H2 fun b H3 => if b = true then tE E cx WF e σ2 H3 fun y H4 => ∃ acc, H4 D = some (.lst acc) ∧ acc.length < sizeLine ∧ Nx (upd H4 D (.lst (acc ++ [y]))) else Nx H3)
    (Fin := fun H => Q (.ref D) H) (ads0 := []) (s0 := wipeS s1 vs) (F0 := F1) (own0 := ownOff own1 vs) (acc0 := []) hJ ht
    (kt_elt hD (fun z => (and_nz z).1) (fun z => (and_nz z).2)) (fun ads s' H' F' own' acc I dn => ?_) ?_ pd
  · obtain ⟨rsb, fb⟩ := rs1.backV I.fr I.rs
    refine dn F' H' _ fb rsb _ (.inr ⟨rfl, D, acc, ads, rfl, rfl, f1.dm D hD, I.hD, I.fD, I.rp, I.hl, fun i hi => ?_⟩)
    unfold ownBack at hi
    split at hi
    · exact hn i hi
    · exact I.nD i hi
  · have hF : F1 D = none := rs1.fh.none hD
    refine ⟨rsW.chgD hF fun j hj => hn j (ownOff_sub hj).1, Frm.refl.chg hD, upd_same, hF, fun j hj => hn j (ownOff_sub hj).1, .nil, Nat.zero_le _, .refl _⟩
/-- [e for t in xs if c], xs a list of its own that the parts leave -/
theorem lcO_ok {K : PySem.W.Frag} (hw : E.w.K = K) {W : WX} {i : Nat} {c : Oex} {e : Ex} {H : Hp} {Q : VK} (ht : ∀ j, t.has j = true → j ∈ vs) (h : tE E cx W (.lcO vs t i c e) σ H Q) : tLc (iSeq K (tVar i)) (tG E cx t) (tCn E cx WF c) (tE E cx WF e) vs σ H Q := by
  subst hw
  obtain ⟨s, F, own, rs, p⟩ := h
  have p' : Post E.w cx W (c.noio && e.noio) σ F H own (if c.noio && e.noio then (readS s i).bind fun x s0 => (IL.R.of (lstO x) s0).bind fun ds s0 => (noexR (lcR (lcB vs t fun acc s => (evC E.gl E.call c s).bind fun k s => if k then (evE E.gl E.call e s).bind fun y s => appR acc y.1 s else .ok acc s) ds [] (wipeS s0 vs))).bind fun ys s' => .ok (.lst ys, true) (backS s0 s' vs) else .bad) (KVal E H Q) := p
  cases hn : (c.noio && e.noio) with
  | false => rw [hn] at p'; exact p'.elim
  | true =>
    rw [hn] at p'
    have p2 : Post E.w cx W true σ F H own ((readS s i).bind fun x s0 => (IL.R.of (lstO x) s0).bind fun ds s0 => (noexR (lcR (lcB vs t fun acc s => (evC E.gl E.call c s).bind fun k s => if k then (evE E.gl E.call e s).bind fun y s => appR acc y.1 s else .ok acc s) ds [] (wipeS s0 vs))).bind fun ys s' => .ok (.lst ys, true) (backS s0 s' vs)) (KVal E H Q) := p'
    clear p p'
    cases hq : readS s i with
    | bad => rw [hq] at p2; exact p2.elim
    | ex c x s' => unfold readS at hq; split at hq <;> cases hq
    | ok r s' =>
      rw [hq] at p2
      obtain ⟨rfl, v, e1, hb⟩ := rs.slot hq
      obtain ⟨ds, rfl, p1⟩ : ∃ ds, r = .lst ds ∧ Post E.w cx W true σ F H own ((noexR (lcR (lcB vs t fun acc s => (evC E.gl E.call c s).bind fun k s => if k then (evE E.gl E.call e s).bind fun y s => appR acc y.1 s else .ok acc s) ds [] (wipeS s' vs))).bind fun ys s'' => .ok (.lst ys, true) (backS s' s'' vs)) (KVal E H Q) := by
        cases r with
        | lst ds => exact ⟨ds, rfl, p2⟩
        | _ => exact p2.elim
      obtain ⟨a, vs', rfl, hsq, hre, hll⟩ := hb.lst rs.fh
      refine ⟨_, e1, .inl ⟨a, vs', rfl, hsq, fun D hD => ?_⟩⟩
      let Dn : List IL.D → Sg → Prop := fun ys s1 => ∀ F' H' own', Frm true F H own F' H' own' → RS E.w cx (backS s' s1 vs) F' σ H' own' → ∀ v, Val E.w H F' H' own' v (.lst ys) true → Q v H'
      have pd : PD Dn (lcR (lcB vs t fun acc s => (evC E.gl E.call c s).bind fun k s => if k then (evE E.gl E.call e s).bind fun y s => appR acc y.1 s else .ok acc s) ds [] (wipeS s' vs)) := by
        revert p1
        generalize lcR (lcB vs t fun acc s => (evC E.gl E.call c s).bind fun k s => if k then (evE E.gl E.call e s).bind fun y s => appR acc y.1 s else .ok acc s) ds [] (wipeS s' vs) = r
        intro p1
        cases r with
        | bad => exact p1
        | ex c x s => exact p1
        | ok ys s1 => exact fun F' H' own' f r v hv => p1 F' H' own' f r v hv
      have rsW := rs.wipe vs
      have hno : ∀ j, D ∉ own j := rs.no hD
      refine lc_loopG (dk := false) (D := D) (Dn := Dn) (nz := true) (F1 := F) (H1 := H) (ownW := ownOff own vs) (Fw := F) (kb := fun acc s => (evC E.gl E.call c s).bind fun k s => if k then (evE E.gl E.call e s).bind fun y s => appR acc y.1 s else .ok acc s)
        (Kt := fun σ2 H2 Nx => tCn E cx WF c σ2 H2 fun b H3 => if b = true then tE E cx WF e σ2 H3 fun y H4 => ∃ acc, H4 D = some (.lst acc) ∧ acc.length < sizeLine ∧ Nx (upd H4 D (.lst (acc ++ [y]))) else Nx H3)
        (Fin := fun H => Q (.ref D) H) (ads0 := []) (s0 := wipeS s' vs) (F0 := F) (own0 := ownOff own vs) (acc0 := []) (fun j F2 H2 ads s2 own2 acc I => ?_) ht
        (kt_elt hD (fun _ => (and_nz hn).1) (fun _ => (and_nz hn).2)) (fun ads s1 H' F' own' acc I dn => ?_) ?_ pd
      · have sH : Sub H H2 := fun b o hb => I.fr.hn rfl b o hb
        have q : SqL E.w.K H2 a vs' := sH.sqL hsq
        refine ⟨fun d e => ?_, fun e => ⟨vs', q, by rw [hre.length, e]; exact Nat.le_refl _⟩⟩
        obtain ⟨v, e1, r1⟩ := hre.get e
        refine ⟨⟨vs', v, q, e1⟩, fun x H' y => ?_⟩
        obtain ⟨rfl, y⟩ := y
        have := y vs' q
        rw [e1] at this
        cases this
        exact ⟨F2, .refl I.rs.fh, r1.mono I.sw⟩
      · obtain ⟨rsb, fb⟩ := rs.backV I.fr I.rs
        refine dn F' H' _ fb rsb _ (.inr ⟨rfl, D, acc, ads, rfl, rfl, hD, I.hD, I.fD, I.rp, I.hl, fun i hi => ?_⟩)
        unfold ownBack at hi
        split at hi
        · exact hno i hi
        · exact I.nD i hi
      · have hF : F D = none := rs.fh.none hD
        refine ⟨rsW.chgD hF fun j hj => hno j (ownOff_sub hj).1, Frm.refl.chg hD, upd_same, hF, fun j hj => hno j (ownOff_sub hj).1, .nil, Nat.zero_le _, .refl _⟩
/-- [e for t in it for t1 in it1] -/
theorem lc2_ok {W : WX} {it it1 : IL.It} {t1 : Tg} {vs1 : List Nat} {e : Ex} {H : Hp} {Q : VK} (ht : ∀ j, t.has j = true → j ∈ vs) (ht1 : ∀ j, t1.has j = true → j ∈ vs1) (hvs : ∀ j, j ∈ vs1 → j ∈ vs) (h : tE E cx W (.lc2 vs vs1 t it t1 it1 e) σ H Q) :
    tLc2 (tI E cx W it) (tG E cx t) tYes (tI E cx WF it1) (tG E cx t1) tYes (tE E cx WF e) vs vs1 σ H Q := by
  obtain ⟨s, F, own, rs, p⟩ := h
  let kb1 : List IL.D → Sg → R (List IL.D) := fun acc s => (evE E.gl E.call e s).bind fun y s => appR acc y.1 s
  let kb : List IL.D → Sg → R (List IL.D) := fun acc s => (evIt E.gl E.call it1 s).bind fun es s => lcR (lcB vs1 t1 kb1) es acc (wipeS s vs1)
  have p' : Post E.w cx W (it.noio && it1.noio && e.noio) σ F H own ((evIt E.gl E.call it s).bind fun ds s0 => (noexR (lcR (lcB vs t kb) ds [] (wipeS s0 vs))).bind fun ys s' => .ok (.lst ys, true) (backS s0 s' vs)) (KVal E H Q) := p
  refine ⟨s, F, own, rs, p'.bnd (n1 := it.noio) (n2 := it1.noio && e.noio) (fun z => by simp only [Bool.and_eq_true] at z ⊢; exact ⟨z.1.1, z.1.2, z.2⟩) fun ds s1 F1 H1 own1 f1 rs1 k1 J hJ D hD => ?_⟩
  have p1 := k1 F1 f1
  let Dn : List IL.D → Sg → Prop := fun ys s' => ∀ F' H' own', Frm (it1.noio && e.noio) F1 H1 own1 F' H' own' → RS E.w cx (backS s1 s' vs) F' σ H' own' → ∀ v, Val E.w H F' H' own' v (.lst ys) true → Q v H'
  have pd : PD Dn (lcR (lcB vs t kb) ds [] (wipeS s1 vs)) := by
    revert p1
    generalize lcR (lcB vs t kb) ds [] (wipeS s1 vs) = r
    intro p1
    cases r with
    | bad => exact p1
    | ex c x s => exact p1
    | ok ys s' => exact fun F' H' own' f r v hv => p1 F' H' own' f r v hv
  have rsW := rs1.wipe vs
  have hn : ∀ j, D ∉ own1 j := rs1.no hD
  refine lc_loop (dk := false) (D := D) (Dn := Dn) (nz := it1.noio && e.noio) (F1 := F1) (H1 := H1) (ownW := ownOff own1 vs) (kb := kb)
    (Kt := fun σ2 H3 Nx => tYes σ2 H3 fun b H3 => if b = true then tI E cx WF it1 σ2 H3 fun J1 H4 => ∃ W1 : Nat → Nat → Hp → Prop, (∃ m, W1 0 m H4) ∧ ∀ j k H, W1 j k H →
      (J1.stop j H ∧ Nx H) ∨ (J1.go j H ∧ ∃ Nx1 : Hp → Prop, (∀ H', Nx1 H' → ∃ k', k' < k ∧ W1 (j + 1) k' H') ∧ ∀ x H', J1.yld j H x H' → tG E cx t1 x (L2.wipe σ2 vs1) H' fun σ3 H5 => L2.wipe σ3 vs1 = L2.wipe σ2 vs1 ∧ tYes σ3 H5 fun b H6 =>
        if b = true then tE E cx WF e σ3 H6 fun y H7 => ∃ acc, H7 D = some (.lst acc) ∧ acc.length < sizeLine ∧ Nx1 (upd H7 D (.lst (acc ++ [y]))) else Nx1 H6)
      else Nx H3)
    (Fin := fun H => Q (.ref D) H) (ads0 := []) (s0 := wipeS s1 vs) (F0 := F1) (own0 := ownOff own1 vs) (acc0 := []) hJ ht
    (fun Dn' ads s2 σ2 H2 F2 own2 acc Nx I p2 hN => ?_) (fun ads s' H' F' own' acc I dn => ?_) ?_ pd
  · show tI E cx WF it1 σ2 H2 _
    have p2 : PD Dn' ((evIt E.gl E.call it1 s2).bind fun es s => lcR (lcB vs1 t1 kb1) es ads (wipeS s vs1)) := p2
    refine ⟨s2, F2, own2, I.rs, p2.bnd fun es s3 F3 H3 own3 f3 rs3 p3 J1 hJ1 => ?_⟩
    have I3 := I.step (fun z => (and_nz z).1) f3 rs3
    have I3 : LcI false E.w cx F1 H1 (ownOff own1 vs) (it1.noio && e.noio) D F3 σ2 H3 ads s3 F3 own3 acc := ⟨I3.rs, I3.fr, I3.hD, I3.fD, I3.nD, I3.rp, I3.hl, .refl _⟩
    refine lc_loop (dk := false) (E := E) (cx := cx) (Dn := Dn') (nz := it1.noio && e.noio) (F1 := F1) (H1 := H1) (ownW := ownOff own1 vs) (D := D) (σ := σ2) (vs := vs1) (Fw := F3) (kb := kb1)
      (Kt := fun σ3 H5 Nx1 => tYes σ3 H5 fun b H6 => if b = true then tE E cx WF e σ3 H6 fun y H7 => ∃ acc, H7 D = some (.lst acc) ∧ acc.length < sizeLine ∧ Nx1 (upd H7 D (.lst (acc ++ [y]))) else Nx1 H6)
      (Fin := Nx) hJ1 ht1 (fun Dn2 ads s4 σ4 H4 F4 own4 acc Nx1 I4 p4 hN1 => ?_) (fun ads' s' H' F' own' acc' I' dn => ?_) (I3.wipe vs1) p3
    · obtain ⟨s5, F5, own5, rs5, p5⟩ := kt_elt (c := .no) (e := e) (vs := vs1) hD (fun _ => rfl) (fun z => (and_nz z).2) Dn2 ads s4 σ4 H4 F4 own4 acc Nx1 I4 p4 hN1
      exact Post.fin (a := true) p5 .refl rs5
    · refine hN _ ads' s' H' F' own' acc' ?_ ⟨I'.rs, I'.fr, I'.hD, I'.fD, I'.nD, I'.rp, I'.hl, I'.fr.ff⟩ dn
      refine wipe_ext (wipe_length ..) fun j hj => ?_
      rw [wipe_out hj, wipe_out (fun h => hj (hvs j h))]
  · obtain ⟨rsb, fb⟩ := rs1.backV I.fr I.rs
    refine dn F' H' _ fb rsb _ (.inr ⟨rfl, D, acc, ads, rfl, rfl, f1.dm D hD, I.hD, I.fD, I.rp, I.hl, fun i hi => ?_⟩)
    unfold ownBack at hi
    split at hi
    · exact hn i hi
    · exact I.nD i hi
  · have hF : F1 D = none := rs1.fh.none hD
    refine ⟨rsW.chgD hF fun j hj => hn j (ownOff_sub hj).1, Frm.refl.chg hD, upd_same, hF, fun j hj => hn j (ownOff_sub hj).1, .nil, Nat.zero_le _, .refl _⟩
/-- {k: e for t in it} -/
theorem dct_ok {W : WX} {it : IL.It} {k e : Ex} {H : Hp} {Q : VK} (ht : ∀ j, t.has j = true → j ∈ vs) (h : tE E cx W (.dct vs t it k e) σ H Q) : tDc (tI E cx W it) (tG E cx t) tYes (tE E cx WF k) (tE E cx WF e) vs σ H Q := by
  obtain ⟨s, F, own, rs, p⟩ := h
  let kb : List IL.D → Sg → R (List IL.D) := fun acc s => (evE E.gl E.call k s).bind fun y s => (evE E.gl E.call e s).bind fun z s => putR acc y.1 z.1 s
  have p' : Post E.w cx W (it.noio && k.noio && e.noio) σ F H own ((evIt E.gl E.call it s).bind fun ds s0 => (noexR (lcR (lcB vs t kb) ds [] (wipeS s0 vs))).bind fun ys s' => .ok (.obj dctN ys, false) (backS s0 s' vs)) (KVal E H Q) := p
  refine ⟨s, F, own, rs, p'.bnd (n1 := it.noio) (n2 := k.noio && e.noio) (fun z => by simp only [Bool.and_eq_true] at z ⊢; exact ⟨z.1.1, z.1.2, z.2⟩) fun ds s1 F1 H1 own1 f1 rs1 k1 J hJ D hD => ?_⟩
  have p1 := k1 F1 f1
  let Dn : List IL.D → Sg → Prop := fun ys s' => ∀ F' H' own', Frm (k.noio && e.noio) F1 H1 own1 F' H' own' → RS E.w cx (backS s1 s' vs) F' σ H' own' → ∀ v, Val E.w H F' H' own' v (.obj dctN ys) false → Q v H'
  have pd : PD Dn (lcR (lcB vs t kb) ds [] (wipeS s1 vs)) := by
    revert p1
    generalize lcR (lcB vs t kb) ds [] (wipeS s1 vs) = r
    intro p1
    cases r with
    | bad => exact p1
    | ex c x s => exact p1
    | ok ys s' => exact fun F' H' own' f r v hv => p1 F' H' own' f r v hv
  have rsW := rs1.wipe vs
  have hn : ∀ j, D ∉ own1 j := rs1.no hD
  refine lc_loop (dk := true) (D := D) (Dn := Dn) (nz := k.noio && e.noio) (F1 := F1) (H1 := H1) (ownW := ownOff own1 vs) (kb := kb)
    (Kt := fun σ2 H2 Nx => tYes σ2 H2 fun b H3 => if b = true then tE E cx WF k σ2 H3 fun y H4 => tE E cx WF e σ2 H4 fun z H5 => ∃ kvs k, y = kV k ∧ H5 D = some (.dK kvs) ∧ kvs.length < sizeLine ∧ Nx (upd H5 D (.dK (putK kvs k z))) else Nx H3)
    (Fin := fun H => Q (.ref D) H) (ads0 := []) (s0 := wipeS s1 vs) (F0 := F1) (own0 := ownOff own1 vs) (acc0 := []) hJ ht
    (kt_ent hD (fun z => (and_nz z).1) (fun z => (and_nz z).2)) (fun ads s' H' F' own' acc I dn => ?_) ?_ pd
  · obtain ⟨rsb, fb⟩ := rs1.backV I.fr I.rs
    obtain ⟨ds, h1, h2, h3⟩ := I.rp
    have nb : ∀ i, D ∉ ownBack own1 own' vs i := fun i hi => by
      unfold ownBack at hi
      split at hi
      · exact hn i hi
      · exact I.nD i hi
    have sF : Sub F' (upd F' D (obK true ads acc)) := sub_upd I.fD
    refine dn (upd F' D (obK true ads acc)) H' _ ⟨fb.ff.trans sF, fun c o e hno => ?_, fb.hn, fb.oo, fb.on, fb.dm⟩ (rsb.frz I.hD I.fD nb) _ (.inl ⟨rfl, ?_⟩)
    · obtain ⟨e1, e2⟩ := fb.hh c o e hno
      exact ⟨e1, fun z => by rw [upd_ne (ne_of_none e hD)]; exact e2 z⟩
    · have hrep : Rep E.w (upd F' D (obK true ads acc)) (.ref D) (.obj dctN (pr (keysP ads) ds)) := .dct upd_same (h2.mono sF) h3 I.hl
      rw [← h1] at hrep
      exact hrep
  · have hF : F1 D = none := rs1.fh.none hD
    exact ⟨rsW.chgD hF fun j hj => hn j (ownOff_sub hj).1, Frm.refl.chg hD, upd_same, hF, fun j hj => hn j (ownOff_sub hj).1, ⟨[], rfl, .nil, rfl⟩, Nat.zero_le _, .refl _⟩
end
end IL
end
section
set_option maxHeartbeats 4000000
namespace IL
open PySem PySem.Spec PyProof.Rows L2
def chkAnd (op : BoolOp) (y : Expr) (r : List Expr) (p : Pos) : Expr := match r with
  | [] => y
  | _ => .BoolOp op (y :: r) p
/-- is None, is not None -/
def isNn (n : Bool) : List CmpOp → List Expr → Bool
  | [op], [.Constant .none _ _] => if n then op == .IsNot else op == .Is
  | _, _ => false
theorem isNn_ok {n : Bool} {ops : List CmpOp} {ys : List Expr} (h : isNn n ops ys = true) : ∃ j p, ops = [if n then .IsNot else .Is] ∧ ys = [.Constant .none j p] := by
  unfold isNn at h
  split at h
  · rename_i op j p
    refine ⟨j, p, ?_, rfl⟩
    cases n <;> simp at h <;> subst h <;> rfl
  · cases h
/-- is True, is not False .. -/
def isBb (n : Bool) (l : Lit) (ops : List CmpOp) (ys : List Expr) : Bool := match l, ops, ys with
  | .bl b, [op], [.Constant (.bool c) _ _] => b == c && (if n then op == .IsNot else op == .Is)
  | _, _, _ => false
theorem isBb_ok {n : Bool} {l : Lit} {ops : List CmpOp} {ys : List Expr} (h : isBb n l ops ys = true) : ∃ b j p, l = .bl b ∧ ops = [if n then .IsNot else .Is] ∧ ys = [.Constant (.bool b) j p] := by
  unfold isBb at h
  split at h
  · rename_i b op c j p
    simp only [Bool.and_eq_true, beq_iff_eq] at h
    obtain ⟨rfl, h⟩ := h
    refine ⟨b, j, p, rfl, ?_, rfl⟩
    cases n <;> simp at h <;> subst h <;> rfl
  · cases h
/-- the context within a comprehension -/
def Cn.blk (C : Cn) (scope : Scope) : Cn := { C with sc := relS scope C.sc, cs := (scope.names.filter fun y => y.2 == .cell).map (·.1) }
def ownV (C : Cn) (vs : List Nat) : List (Str × Nat) := vs.map fun i => (C.N.getD i "", i)
def Tg.sub : Tg → List Nat → Bool
  | .nm i, vs => vs.contains i
  | .nil, _ => true
  | .cons a r, vs => a.sub vs && r.sub vs
def shLc : Expr → Option (Expr × Expr × Expr × List Expr × Scope × Pos)
  | .ListComp elt [⟨tg, iter, ifs, 0⟩] scope pos => some (elt, tg, iter, ifs, scope, pos)
  | _ => none
def shLc2 : Expr → Option (Expr × Expr × Expr × Expr × Expr × Scope × Pos)
  | .ListComp elt [⟨tg, iter, [], 0⟩, ⟨tg1, iter1, [], 0⟩] scope pos => some (elt, tg, iter, tg1, iter1, scope, pos)
  | _ => none
def shDct : Expr → Option (Expr × Expr × Expr × Expr × Scope × Pos)
  | .DictComp kx vx [⟨tg, iter, [], 0⟩] scope pos => some (kx, vx, tg, iter, scope, pos)
  | _ => none
def isTup : Expr → Bool
  | .Tuple _ _ _ => true | _ => false
mutual
def chkE (C : Cn) : Ex → Expr → Bool
  | .loc i, .Name x _ => isLoc C i x
  | .glo y, .Name x _ => x == y && isGlo C x && C.gn.contains x
  | .lit l, .Constant c _ _ => litC l c
  | .bin o a b, .BinOp x op y _ => opB op == some o && noFld a && chkE C a x && chkE C b y
  | .neg a, .UnaryOp .USub x _ => chkE C a x
  | .not a, .UnaryOp .Not x _ => chkE C a x
  | .cmp o a b, .Compare x [op] [y] _ => opC op == some o && noFld a && !behindInMarks op y && chkE C a x && chkE C b y
  | .chn o q a b c, .Compare x [op, op'] [y, z] _ => opC op == some o && opC op' == some q && !lastMarks [op, op'] [y, z] && chkE C a x && chkE C b y && chkE C c z
  | .chn3 o q r a b c d, .Compare x [op, op', op2] [y, z, u] _ => opC op == some o && opC op' == some q && opC op2 == some r && !lastMarks [op, op', op2] [y, z, u] && chkE C a x && chkE C b y && chkE C c z && chkE C d u
  | .isl n a l, .Compare x ops ys _ => (l == .non && isNn n ops ys || isBb n l ops ys) && chkE C a x
  | .and a b, .BoolOp .And (x :: y :: r) p => chkE C a x && chkE C b (chkAnd .And y r p)
  | .or a b, .BoolOp .Or (x :: y :: r) p => chkE C a x && chkE C b (chkAnd .Or y r p)
  | .ite c a b, .IfExp z x y _ => chkE C c z && chkE C a x && chkE C b y
  | .tup xs, .Tuple es _ _ => chkXs C xs es
  | .lst xs, .List es _ => chkXs C xs es
  | .ix a b, .Subscript x y _ => noFld a && chkE C a x && chkE C b y
  | .sl a lo hi, .Subscript x (.Slice l h none _) _ => noFld a && chkE C a x && chkO C lo l && chkO C hi h
  | .call f xs, .Call (.Name g _) args [] _ => f == g && isGlo C g && C.calm && C.fs.contains f && noStar args && chkXs C xs args
  | .cio f i xs, .Call (.Name g _) (.Name x _ :: args) [] _ => f == g && isGlo C g && C.calm && C.fi.contains f && isLoc C i x && noStar args && chkXs C xs args
  | .blt .rev (.cons false a .nil), .Subscript x (.Slice none none (some (.UnaryOp .USub (.Constant (.int 1) _ _) _)) _) _ => chkE C a x
  | .blt f xs, .Call (.Name g _) args [] _ => !isRev f && g == bltN f && isGlo C g && C.calm && noStar args && !args.isEmpty && chkXs C xs args
  | .isi a ts, .Call (.Name g _) [x, c] [] _ => g == ("isinstance" : Str) && isGlo C g && chkE C a x && (match ts, c with
      | [t], .Name y p => chkTy C t (.Name y p)
      | ts, .Tuple cs _ _ => chkTys C ts cs && ts.all isB && noStar cs && decide (ts.length ≤ limN)
      | _, _ => false)
  | .mth .index o (.cons false e .nil), .Call (.Attribute x n ap) [y] [] cp => n == ("index" : Str) && ap.endLine == cp.line && noSuper x && noStar [y] && chkE C o x && chkE C e y
  | .mth .count o (.cons false e .nil), .Call (.Attribute x n ap) [y] [] cp => n == ("count" : Str) && ap.endLine == cp.line && noSuper x && noStar [y] && chkE C o x && chkE C e y
  | .mth .kinds o .nil, .Call (.Name g _) [.Call (.Name k _) [x] [] _] [] _ => g == ("len" : Str) && k == ("set" : Str) && isGlo C g && isGlo C k && C.calm && noStar [x] && chkE C o x
  | .mth .bits o .nil, .Call (.Attribute x n ap) [] [] cp => n == ("bit_length" : Str) && ap.endLine == cp.line && noSuper x && chkE C o x
  | .lc vs t it c e, x => (match shLc x with
      | some (elt, tg, iter, ifs, scope, _) => C.calm && blkC C.N C.sc scope (ownV C vs) && t.sub vs && chkIt C it tg iter && chkT (C.blk scope) t tg && chkC (C.blk scope) c ifs && chkE (C.blk scope) e elt
      | none => false)
  | .lcO vs t i c e, x => (match shLc x with
      | some (elt, tg, .Name y _, ifs, scope, _) => C.calm && blkC C.N C.sc scope (ownV C vs) && t.sub vs && isLoc C i y && chkT (C.blk scope) t tg && chkC (C.blk scope) c ifs && chkE (C.blk scope) e elt
      | _ => false)
  | .lc2 vs vs1 t it t1 it1 e, x => (match shLc2 x with
      | some (elt, tg, iter, tg1, iter1, scope, _) => C.calm && blkC C.N C.sc scope (ownV C vs) && vs1.all (vs.contains ·) && t.sub vs && t1.sub vs1 && chkIt C it tg iter && chkT (C.blk scope) t tg && chkIt (C.blk scope) it1 tg1 iter1 && chkT (C.blk scope) t1 tg1 && chkE (C.blk scope) e elt
      | none => false)
  | .dct vs t it k e, x => (match shDct x with
      | some (kx, vx, tg, iter, scope, _) => C.calm && blkC C.N C.sc scope (ownV C vs) && t.sub vs && chkIt C it tg iter && chkT (C.blk scope) t tg && chkE (C.blk scope) k kx && chkE (C.blk scope) e vx
      | none => false)
  | .fld i f, .Attribute (.Name x _) n _ => f == n && isLoc C i x
  | .fo i f, .Attribute (.Name x _) n _ => f == n && isLoc C i x
  | .mio f c i xs, .Call (.Attribute (.Name x _) m ap) args [] cp => C.calm && C.fm.contains (f, c, m) && isLoc C i x && noStar args && decide (args.length < 29) && ap.endLine == cp.line && chkXs C xs args
  | _, _ => false
/-- what is walked; tg: the target -/
def chkIt (C : Cn) : IL.It → Expr → Expr → Bool
  | .rng a, _, .Call (.Name n _) [x] [] _ => n == ("range" : Str) && isGlo C n && noStar [x] && chkE C a x
  | .rng2 a b, _, .Call (.Name n _) [x, y] [] _ => n == ("range" : Str) && isGlo C n && noStar [x, y] && chkE C a x && chkE C b y
  | .enum (.seq a), tg, .Call (.Name n _) [x] [] _ => isTup tg && n == ("enumerate" : Str) && isGlo C n && noStar [x] && chkE C a x
  | .enum (.zip (.seq a) (.seq b)), tg, .Call (.Name n _) [.Call (.Name n2 _) [x, y] [] _] [] _ => isTup tg && n == ("enumerate" : Str) && isGlo C n && n2 == ("zip" : Str) && isGlo C n2 && noStar [x, y] && chkE C a x && chkE C b y
  | .zip (.seq a) (.seq b), tg, .Call (.Name n _) [x, y] [] _ => isTup tg && n == ("zip" : Str) && isGlo C n && noStar [x, y] && chkE C a x && chkE C b y
  | .zip3 a b c, tg, .Call (.Name n _) [x, y, u] [] _ => isTup tg && n == ("zip" : Str) && isGlo C n && noStar [x, y, u] && chkE C a x && chkE C b y && chkE C c u
  | .seq e, _, x => chkE C e x
  | _, _, _ => false
def chkC (C : Cn) : Oex → List Expr → Bool
  | .no, [] => true
  | .yes e, [x] => chkE C e x
  | _, _ => false
def chkXs (C : Cn) : Exs → List Expr → Bool
  | .nil, [] => true
  | .cons true e r, .Starred x _ :: es => chkE C e x && chkXs C r es
  | .cons false e r, x :: es => chkE C e x && chkXs C r es
  | _, _ => false
def chkO (C : Cn) : Oex → Option Expr → Bool
  | .no, none => true
  | .yes e, some x => chkE C e x
  | _, _ => false
end
/-- whose test is its value's truth -/
def plainT : Expr → Bool
  | .UnaryOp .Not _ _ => false | .BoolOp _ _ _ => false | .IfExp _ _ _ _ => false | .Compare _ _ _ _ => false | _ => true
theorem plainT_ok {e : Expr} {env : Env} (h : plainT e = true) (whole : Sem Value) : isTrue e env whole = (do let v ← whole; standAt e.pos; holding [v] (truthy v)) := by
  cases e with
  | UnaryOp op _ _ => cases op <;> first | rfl | simp [plainT] at h
  | BoolOp _ _ _ => simp [plainT] at h
  | IfExp _ _ _ _ => simp [plainT] at h
  | Compare _ _ _ _ => simp [plainT] at h
  | _ => rfl
structure Ok (E : En) (cx : Cxs) (W : WX) (X : Cx) (il : Ex) (e : Expr) : Prop where
  v : PE X e (tE E cx W il)
  r : PE X e (tRd E cx W il)
  t : PT X e (tT E cx W il)
  f : PT X e (tTf E cx W il)
section
variable {E : En} {C : Cn} {X : Cx} {cx : Cxs} {W : WX}
theorem Ok.mk4 {il : Ex} {e : Expr} (hp : isPl il = false) (pe : PE X e (tE E cx W il)) (pt : PT X e (tT E cx W il)) : Ok E cx W X il e :=
  ⟨pe, PE.imp (fun _ _ _ => tRd_tE hp) pe, pt, PT.imp (fun _ _ _ => tTf_tT hp) pt⟩
theorem tT_plain {il : Ex} {e : Expr} (hw : E.w.K = X.K) (hpl : plainT e = true) (pr : PE X e (tRd E cx W il)) : PT X e (tT E cx W il) := by
  refine PT.imp (fun σ H Q h => ?_) (pt_truth pr (plainT_ok hpl))
  obtain ⟨s, F, own, rs, p⟩ := h
  have p' : Post E.w cx W il.noio σ F H own ((rd il (evE E.gl E.call il) s).bind fun x s => R.of (truth x) s) (KTr Q) := p
  refine ⟨s, F, own, rs, p'.bnd (n2 := true) (fun z => ⟨z, rfl⟩) fun x s1 F1 H1 own1 f1 rs1 k1 vx hx => ?_⟩
  obtain ⟨k, e, p2⟩ := (k1 F1 f1).of
  exact ⟨k, bor_tru hw rs1.fh hx e, p2.fin .refl rs1⟩
theorem Ok.plain {il : Ex} {e : Expr} (hw : E.w.K = X.K) (hp : isPl il = false) (hpl : plainT e = true) (pe : PE X e (tE E cx W il)) : Ok E cx W X il e :=
  .mk4 hp pe (tT_plain hw hpl (PE.imp (fun _ _ _ => tRd_tE hp) pe))
theorem Ok.late {a b : Ex} {x : Expr} {i : Nat} (ok : Ok E cx W X a x) (hv : ∀ i, a = .loc i → PE X x (tVar i)) (hf : ∀ i f, a = .fo i f → PE X x (tFv E.w i f)) : PE X x (tLate E cx W a b) := by
  unfold tLate
  split
  · split
    · exact hv _ rfl
    · exact hf _ _ rfl
    · exact ok.v
  · exact ok.v
theorem lateO_pe {a : Ex} {lo hi : Oex} {x : Expr} (ok : Ok E cx W X a x) (hv : ∀ i, a = .loc i → PE X x (tVar i)) (hf : ∀ i f, a = .fo i f → PE X x (tFv E.w i f)) : PE X x (tLateO E cx W a lo hi) := by
  unfold tLateO
  split
  · split
    · exact hv _ rfl
    · exact hf _ _ rfl
    · exact ok.v
  · exact ok.v
theorem fv_pe (g : Good E C X cx W) (k : EnOk E) {i : Nat} {x f : Str} {px p : Pos} (h : isLoc C i x = true) : PE X (.Attribute (.Name x px) f p) (tFv E.w i f) := by
  obtain ⟨h1, h2, h3, h4⟩ := g.vis h
  refine PE.imp (fun σ H Q q => ?_) (pe_fld (pe_var h1 h2 h3 h4) rfl)
  obtain ⟨a, dx, c, fs, v, e1, e2, e3, e4, e5, q⟩ := q
  obtain ⟨k1, k2⟩ := k.cl c e3
  exact ⟨.ref a, e1, a, _, dx, fs, v, rfl, e2, by rw [← g.K]; exact k1, by rw [← g.K]; exact k2 f e4, e5, q⟩
theorem fo_of (g : Good E C X cx W) (k : EnOk E) {a : Ex} {x : Expr} (h : chkE C a x = true) : ∀ i f, a = .fo i f → PE X x (tFv E.w i f) := fun i f e => by
  subst e
  cases x with
  | Attribute o n p =>
    cases o with
    | Name y py =>
      simp only [chkE, Bool.and_eq_true, beq_iff_eq] at h
      obtain ⟨rfl, h⟩ := h
      exact fv_pe g k h
    | _ => simp [chkE] at h
  | _ => simp [chkE] at h
/-- a field of an object of a slot -/
theorem fo_ok (g : Good E C X cx W) (k : EnOk E) {i : Nat} {x f : Str} {px p : Pos} (h : isLoc C i x = true) : Ok E cx W X (.fo i f) (.Attribute (.Name x px) f p) := by
  have pv : PE X (.Attribute (.Name x px) f p) (tFv E.w i f) := fv_pe g k h
  have pe : PE X (.Attribute (.Name x px) f p) (tE E cx W (.fo i f)) := by
    refine PE.imp (fun σ H Q h => ?_) pv
    obtain ⟨s, F, own, rs, q⟩ := h
    have q' : Post E.w cx W true σ F H own (takeO s i f) (KVal E H Q) := q
    cases hq : takeO s i f with
    | bad => rw [hq] at q'; exact q'.elim
    | ex c x s' => unfold takeO at hq; split at hq <;> (try split at hq) <;> cases hq
    | ok r s' =>
      rw [hq] at q'
      obtain ⟨hr, a, dx, c, fs, v, F1, own1, e1, e2, e3, e4, e5, f1, rs1, hv⟩ := rs.takeO (nz := true) hq
      exact ⟨a, dx, c, fs, v, e1, e2, e3, e4, e5, Post.fin (a := r) q' f1 rs1 v (.inl ⟨hr, hv⟩)⟩
  have pr : PE X (.Attribute (.Name x px) f p) (tRd E cx W (.fo i f)) := by
    refine PE.imp (fun σ H Q h => ?_) pv
    obtain ⟨s, F, own, rs, q⟩ := h
    have q' : Post E.w cx W true σ F H own (readO s i f) (KBor E Q) := q
    cases hq : readO s i f with
    | bad => rw [hq] at q'; exact q'.elim
    | ex c x s' => unfold readO at hq; split at hq <;> (try split at hq) <;> cases hq
    | ok r s' =>
      rw [hq] at q'
      obtain ⟨rfl, a, dx, c, fs, v, e1, e2, e3, e4, e5, hb⟩ := rs.fslot hq
      exact ⟨a, dx, c, fs, v, e1, e2, e3, e4, e5, q'.fin .refl rs _ hb⟩
  refine ⟨pe, pr, tT_plain g.K rfl pr, ?_⟩
  refine PT.imp (fun σ H Q h => ?_) (pt_truth pe (plainT_ok rfl))
  obtain ⟨s, F, own, rs, q⟩ := h
  refine ⟨s, F, own, rs, q.bnd (n2 := true) (fun z => ⟨z, rfl⟩) fun x s1 F1 H1 own1 f1 rs1 k1 vx hx => ?_⟩
  obtain ⟨k, e, p2⟩ := (k1 F1 f1).of
  exact ⟨k, bor_tru g.K rs1.fh hx.bor e, p2.fin .refl rs1⟩
theorem var_of (g : Good E C X cx W) {a : Ex} {x : Expr} (h : chkE C a x = true) : ∀ i, a = .loc i → PE X x (tVar i) := fun i e => by
  subst e
  cases x <;> simp only [chkE] at h <;> first | (cases h; done) | skip
  obtain ⟨h1, h2, h3, h4⟩ := g.vis h
  exact pe_var h1 h2 h3 h4
theorem loc_ok (g : Good E C X cx W) {i : Nat} {x : Str} {p : Pos} (h : isLoc C i x = true) : Ok E cx W X (.loc i) (.Name x p) := by
  obtain ⟨h1, h2, h3, h4⟩ := g.vis h
  have pv : PE X (.Name x p) (tVar i) := pe_var h1 h2 h3 h4
  have pe : PE X (.Name x p) (tE E cx W (.loc i)) := by
    refine PE.imp (fun σ H Q h => ?_) pv
    obtain ⟨s, F, own, rs, q⟩ := h
    have q' : Post E.w cx W true σ F H own (takeS s i) (KVal E H Q) := q
    unfold takeS at q'
    split at q'
    · rename_i d e
      obtain ⟨o, e1, r⟩ := rs.sl i _ e
      generalize own i = A at r
      cases r with
      | sh h => exact ⟨_, e1, Post.fin (a := (d, false)) q' .refl rs _ (.inl ⟨rfl, h⟩)⟩
    · rename_i xs e
      obtain ⟨v, F1, own1, e1, f1, rs1, hr⟩ := rs.take (nz := true) e
      exact ⟨v, e1, Post.fin (a := (D.lst xs, false)) q' f1 rs1 _ (.inl ⟨rfl, hr⟩)⟩
    · exact q'.elim
  have pr : PE X (.Name x p) (tRd E cx W (.loc i)) := by
    refine PE.imp (fun σ H Q h => ?_) pv
    obtain ⟨s, F, own, rs, q⟩ := h
    have q' : Post E.w cx W true σ F H own (readS s i) (KBor E Q) := q
    cases hq : readS s i with
    | bad => rw [hq] at q'; exact q'.elim
    | ex c x s' => unfold readS at hq; split at hq <;> cases hq
    | ok r s' =>
      rw [hq] at q'
      obtain ⟨rfl, v, e1, hb⟩ := rs.slot hq
      exact ⟨v, e1, q'.fin .refl rs _ hb⟩
  refine ⟨pe, pr, tT_plain g.K rfl pr, ?_⟩
  refine PT.imp (fun σ H Q h => ?_) (pt_truth pe (plainT_ok rfl))
  obtain ⟨s, F, own, rs, q⟩ := h
  refine ⟨s, F, own, rs, q.bnd (n2 := true) (fun z => ⟨z, rfl⟩) fun x s1 F1 H1 own1 f1 rs1 k1 vx hx => ?_⟩
  obtain ⟨k, e, p2⟩ := (k1 F1 f1).of
  exact ⟨k, bor_tru g.K rs1.fh hx.bor e, p2.fin .refl rs1⟩
/-- the field of a caught error -/
theorem fld_ok (g : Good E C X cx W) (k : EnOk E) {i : Nat} {x f : Str} {px p : Pos} (h : isLoc C i x = true) : Ok E cx W X (.fld i f) (.Attribute (.Name x px) f p) := by
  obtain ⟨h1, h2, h3, h4⟩ := g.vis h
  have pv : PE X (.Name x px) (tVar i) := pe_var h1 h2 h3 h4
  have core : ∀ {Q : VK} {σ : L2.St} {H : Hp} {c : Str} {d : D} {F : Hp} {own : Nat → List Addr} {s : Sg}, RS E.w cx s F σ H own → s[i]? = some (.exn c (some d)) → fldOf c = some f → (∀ v, Rep E.w F v d → Q v H) →
      ∀ pins (sh : Shared), Inv X pins σ H sh → wpAny (model X.prog X.w) X.A (eval (.Attribute (.Name x px) f p) X.env) (EP X pins σ Q) X.xe sh := fun {Q σ H c d F own s} rs e ef hQ pins sh I => by
    obtain ⟨o, e1, r⟩ := rs.sl i _ e
    generalize own i = A at r
    cases r with
    | @exnD _ fc a dd v _ hmem hf q r =>
      rcases g.cxo with hn | ⟨X0, a0, oe, pn, c0, dd0, hX, hz, hfl, hcx, hc⟩
      · rw [hn] at hmem; cases hmem
      · rw [hcx] at hmem
        have hm : (a, c, some dd) = (a0, c0, dd0) := by simpa using hmem
        cases hm
        rw [k.xf, ef] at hf
        cases hf
        subst hX
        obtain ⟨T, hno⟩ := k.xr c hc f ef
        have hK := g.K
        rw [hK] at T hno
        refine (pe_xf (X := X0) (C := E.w.ca c) (n := f) T hno hz hfl pv rfl).run pins sh σ H Q I ⟨.ref _, e1, rfl, rfl, dd, [(f, v)], v, rfl, rs.fh _ _ q, by simp [List.lookup], hQ v r⟩
  have pe : PE X (.Attribute (.Name x px) f p) (tE E cx W (.fld i f)) := by
    refine ⟨fun pins sh σ H Q I ⟨s, F, own, rs, q⟩ => ?_⟩
    have q' : Post E.w cx W true σ F H own (takeF s i f) (KVal E H Q) := q
    unfold takeF at q'
    split at q'
    · rename_i c d e
      split at q'
      · rename_i ef
        exact core rs e ef (fun v r => Post.fin (a := (d, false)) q' .refl rs v (.inl ⟨rfl, r⟩)) pins sh I
      · exact q'.elim
    · exact q'.elim
  have pr : PE X (.Attribute (.Name x px) f p) (tRd E cx W (.fld i f)) := by
    refine ⟨fun pins sh σ H Q I ⟨s, F, own, rs, q⟩ => ?_⟩
    have q' : Post E.w cx W true σ F H own (readF s i f) (KBor E Q) := q
    unfold readF at q'
    split at q'
    · rename_i c d e
      split at q'
      · rename_i ef
        exact core rs e ef (fun v r => Post.fin (a := d) q' .refl rs v (.inl r)) pins sh I
      · exact q'.elim
    · exact q'.elim
  refine ⟨pe, pr, tT_plain g.K rfl pr, ?_⟩
  refine PT.imp (fun σ H Q h => ?_) (pt_truth pe (plainT_ok rfl))
  obtain ⟨s, F, own, rs, q⟩ := h
  refine ⟨s, F, own, rs, q.bnd (n2 := true) (fun z => ⟨z, rfl⟩) fun x s1 F1 H1 own1 f1 rs1 k1 vx hx => ?_⟩
  obtain ⟨k, e, p2⟩ := (k1 F1 f1).of
  exact ⟨k, bor_tru g.K rs1.fh hx.bor e, p2.fin .refl rs1⟩
theorem lit_ok (g : Good E C X cx W) {l : Lit} {c : Const} {k : Nat} {p : Pos} (h : litC l c = true) : Ok E cx W X (.lit l) (.Constant c k p) := by
  refine Ok.plain g.K rfl rfl ?_
  have fin {v : V} (hv : ∀ F, Rep E.w F v l.d) : ∀ σ H Q, tE E cx W (.lit l) σ H Q → tC v σ H Q := fun σ H Q ⟨s, F, own, rs, q⟩ => Post.fin (a := (l.d, false)) q .refl rs v (.inl ⟨rfl, hv F⟩)
  cases l with
  | non => cases c <;> simp [litC] at h; exact PE.imp (fin fun _ => .non) pe_non
  | bl a => cases c <;> simp [litC] at h; subst h; exact PE.imp (fin fun _ => .bl _) pe_bl
  | int a => cases c <;> simp [litC] at h; subst h; exact PE.imp (fin fun _ => .int _) pe_int
  | str a =>
    cases c <;> simp [litC] at h
    obtain ⟨⟨rfl, h2⟩, h3⟩ := h
    exact PE.imp (fin fun _ => .str _ h2 h3) pe_str
theorem glo_ok (g : Good E C X cx W) (k : EnOk E) {x : Str} {p : Pos} (h : isGlo C x = true) (hx : x ∈ E.gn) : Ok E cx W X (.glo x) (.Name x p) := by
  refine Ok.plain g.K rfl rfl ⟨fun pins s σ H Q I ⟨s', F, own, rs, q⟩ => ?_⟩
  obtain ⟨hg, hd⟩ := g.glo h
  cases e : E.gl x with
  | none =>
    have q' : Post E.w cx W true σ F H own (R.of ((E.gl x).map fun d => (d, false)) s') (KVal E H Q) := q
    rw [e] at q'; exact q'.elim
  | some d =>
    obtain ⟨v, u, h1, h2, h3⟩ := k.gl x hx d e
    have q' : Post E.w cx W true σ F H own (R.of ((E.gl x).map fun d => (d, false)) s') (KVal E H Q) := q
    rw [e] at q'
    exact (pe_glob hg (by rw [g.mg]; exact h1) h2 hd).run pins s σ H Q I (Post.fin (a := (d, false)) q' .refl rs v (.inl ⟨rfl, h3 F⟩))
theorem ty_ok (g : Good E C X cx W) (k : EnOk E) {t : Ty} {e : Expr} (h : chkTy C t e = true) : PE X e (tC (.ty (tyS t))) := by
  cases e with
  | Name x p =>
    simp only [chkTy, Bool.and_eq_true, beq_iff_eq] at h
    obtain ⟨⟨h1, rfl⟩, h3⟩ := h
    obtain ⟨hg, hd⟩ := g.glo h3
    cases t with
    | cls c => simp [isB] at h1
    | int => exact pe_bltn hg (g.blt k (by decide)) (u := .type "int") (by rfl) rfl (by decide) hd
    | bool => exact pe_bltn hg (g.blt k (by decide)) (u := .type "bool") (by rfl) rfl (by decide) hd
    | str => exact pe_bltn hg (g.blt k (by decide)) (u := .type "str") (by rfl) rfl (by decide) hd
    | tuple => exact pe_bltn hg (g.blt k (by decide)) (u := .type "tuple") (by rfl) rfl (by decide) hd
    | list => exact pe_bltn hg (g.blt k (by decide)) (u := .type "list") (by rfl) rfl (by decide) hd
  | _ => cases t <;> simp [chkTy] at h
def tTys (ts : List Ty) : TA := fun _ H Q => Q (ts.map fun t => .ty (tyS t)) H
theorem tys_ok (g : Good E C X cx W) (k : EnOk E) : ∀ {ts : List Ty} {es : List Expr}, chkTys C ts es = true → noStar es = true → PA X es (tTys ts)
  | [], es, h, _ => by
    cases es with
    | nil => exact pa_nil
    | cons _ _ => simp [chkTys] at h
  | t :: ts, es, h, hn => by
    cases es with
    | nil => simp [chkTys] at h
    | cons e es =>
      simp only [chkTys, Bool.and_eq_true] at h
      obtain ⟨h1, h2⟩ := noStar_cons hn
      exact pa_cons (ty_ok g k h.1) (tys_ok g k h.2 h2) (star_of h1)
theorem clsV_all : ∀ ts : List Ty, Paired ClsV (ts.map fun t => V.ty (tyS t)) (ts.map fun t => Value.type (tyS t))
  | [] => .nil
  | t :: ts => .cons (.ty _) (clsV_all ts)
theorem shLc_ok {x elt tg iter : Expr} {ifs : List Expr} {scope : Scope} {pos : Pos} (h : shLc x = some (elt, tg, iter, ifs, scope, pos)) : x = .ListComp elt [⟨tg, iter, ifs, 0⟩] scope pos := by
  unfold shLc at h
  split at h
  · cases h; rfl
  · cases h
theorem shDct_ok {x kx vx tg iter : Expr} {scope : Scope} {pos : Pos} (h : shDct x = some (kx, vx, tg, iter, scope, pos)) : x = .DictComp kx vx [⟨tg, iter, [], 0⟩] scope pos := by
  unfold shDct at h
  split at h
  · cases h; rfl
  · cases h
theorem shLc2_ok {x elt tg iter tg1 iter1 : Expr} {scope : Scope} {pos : Pos} (h : shLc2 x = some (elt, tg, iter, tg1, iter1, scope, pos)) : x = .ListComp elt [⟨tg, iter, [], 0⟩, ⟨tg1, iter1, [], 0⟩] scope pos := by
  unfold shLc2 at h
  split at h
  · cases h; rfl
  · cases h
theorem Tg.sub_ok : ∀ {t : Tg} {vs : List Nat}, t.sub vs = true → ∀ j, t.has j = true → j ∈ vs
  | .nm i, vs, h, j, hj => by
    simp only [Tg.sub] at h
    simp only [Tg.has, beq_iff_eq] at hj
    subst hj
    simpa using h
  | .nil, _, _, _, h => by simp [Tg.has] at h
  | .cons a r, vs, h, j, hj => by
    simp only [Tg.sub, Bool.and_eq_true] at h
    simp only [Tg.has, Bool.or_eq_true] at hj
    exact hj.elim (Tg.sub_ok h.1 j) (Tg.sub_ok h.2 j)
theorem ownV_snd {vs : List Nat} : (ownV C vs).map (·.2) = vs := by
  unfold ownV
  rw [List.map_map]
  exact List.map_id' vs
theorem isTup_ok {e : Expr} (h : isTup e = true) : ∃ es k p, e = .Tuple es k p := by
  cases e <;> simp [isTup] at h
  exact ⟨_, _, _, rfl⟩
theorem chkIt_rng {a : Ex} {tg e : Expr} (h : chkIt C (.rng a) tg e = true) : ∃ n p x q, e = .Call (.Name n p) [x] [] q ∧ (n == ("range" : Str) && isGlo C n && noStar [x] && chkE C a x) = true := by
  unfold chkIt at h
  split at h <;> first | (exact absurd h Bool.false_ne_true) | (rename_i heq; cases heq; done) | (rename_i heq; cases heq; exact ⟨_, _, _, _, rfl, h⟩)
theorem chkIt_rng2 {a b : Ex} {tg e : Expr} (h : chkIt C (.rng2 a b) tg e = true) : ∃ n p x y q, e = .Call (.Name n p) [x, y] [] q ∧ (n == ("range" : Str) && isGlo C n && noStar [x, y] && chkE C a x && chkE C b y) = true := by
  unfold chkIt at h
  split at h <;> first | (exact absurd h Bool.false_ne_true) | (rename_i heq; cases heq; done) | (rename_i heq; cases heq; exact ⟨_, _, _, _, _, rfl, h⟩)
theorem chkIt_enum {a : Ex} {tg e : Expr} (h : chkIt C (.enum (.seq a)) tg e = true) : ∃ es k tp n p x q, tg = .Tuple es k tp ∧ e = .Call (.Name n p) [x] [] q ∧ (n == ("enumerate" : Str) && isGlo C n && noStar [x] && chkE C a x) = true := by
  unfold chkIt at h
  split at h <;> first | (exact absurd h Bool.false_ne_true) | (rename_i heq; cases heq; done) | skip
  rename_i heq
  cases heq
  simp only [Bool.and_eq_true] at h
  obtain ⟨⟨⟨⟨h0, h1⟩, h2⟩, h3⟩, h4⟩ := h
  obtain ⟨es, k, tp, rfl⟩ := isTup_ok h0
  exact ⟨_, _, _, _, _, _, _, rfl, rfl, by simp only [h1, h2, h3, h4, Bool.and_self]⟩
theorem chkIt_enumZ {a b : Ex} {tg e : Expr} (h : chkIt C (.enum (.zip (.seq a) (.seq b))) tg e = true) : ∃ es k tp n p n2 p2 x y q2 q, tg = .Tuple es k tp ∧ e = .Call (.Name n p) [.Call (.Name n2 p2) [x, y] [] q2] [] q ∧ (n == ("enumerate" : Str) && isGlo C n && n2 == ("zip" : Str) && isGlo C n2 && noStar [x, y] && chkE C a x && chkE C b y) = true := by
  unfold chkIt at h
  split at h <;> first | (exact absurd h Bool.false_ne_true) | (rename_i heq; cases heq; done) | skip
  rename_i heq
  cases heq
  simp only [Bool.and_eq_true] at h
  obtain ⟨⟨⟨⟨⟨⟨⟨h0, h1⟩, h2⟩, h3⟩, h4⟩, h5⟩, h6⟩, h7⟩ := h
  obtain ⟨es, k, tp, rfl⟩ := isTup_ok h0
  exact ⟨_, _, _, _, _, _, _, _, _, _, _, rfl, rfl, by simp only [h1, h2, h3, h4, h5, h6, h7, Bool.and_self]⟩
theorem chkIt_zip {a b : Ex} {tg e : Expr} (h : chkIt C (.zip (.seq a) (.seq b)) tg e = true) : ∃ es k tp n p x y q, tg = .Tuple es k tp ∧ e = .Call (.Name n p) [x, y] [] q ∧ (n == ("zip" : Str) && isGlo C n && noStar [x, y] && chkE C a x && chkE C b y) = true := by
  unfold chkIt at h
  split at h <;> first | (exact absurd h Bool.false_ne_true) | (rename_i heq; cases heq; done) | skip
  rename_i heq
  cases heq
  simp only [Bool.and_eq_true] at h
  obtain ⟨⟨⟨⟨⟨h0, h1⟩, h2⟩, h3⟩, h4⟩, h5⟩ := h
  obtain ⟨es, k, tp, rfl⟩ := isTup_ok h0
  exact ⟨_, _, _, _, _, _, _, _, rfl, rfl, by simp only [h1, h2, h3, h4, h5, Bool.and_self]⟩
theorem chkIt_zip3 {a b c : Ex} {tg e : Expr} (h : chkIt C (.zip3 a b c) tg e = true) : ∃ es k tp n p x y u q, tg = .Tuple es k tp ∧ e = .Call (.Name n p) [x, y, u] [] q ∧ (n == ("zip" : Str) && isGlo C n && noStar [x, y, u] && chkE C a x && chkE C b y && chkE C c u) = true := by
  unfold chkIt at h
  split at h <;> first | (exact absurd h Bool.false_ne_true) | (rename_i heq; cases heq; done) | skip
  rename_i heq
  cases heq
  simp only [Bool.and_eq_true] at h
  obtain ⟨⟨⟨⟨⟨⟨h0, h1⟩, h2⟩, h3⟩, h4⟩, h5⟩, h6⟩ := h
  obtain ⟨es, k, tp, rfl⟩ := isTup_ok h0
  exact ⟨_, _, _, _, _, _, _, _, _, rfl, rfl, by simp only [h1, h2, h3, h4, h5, h6, Bool.and_self]⟩
theorem folded_pure {e : Expr} {env : Env} (h : ∀ es k p, e ≠ .Set es k p) (x : Value) : foldedSetIterable e env x = pure x := by
  cases e <;> first | exact absurd rfl (h _ _ _) | rfl
theorem noSet {it : IL.It} {tg e : Expr} (h : chkIt C it tg e = true) : ∀ es j p, e ≠ .Set es j p := fun es j p e' => by
  subst e'
  cases it with
  | seq a => exact absurd (show chkE C a (.Set es j p) = true by simpa only [chkIt] using h) (by cases a <;> simp [chkE, shLc, shLc2, shDct])
  | enum i =>
    cases i with
    | zip i j => cases i <;> cases j <;> simp [chkIt] at h
    | _ => simp [chkIt] at h
  | zip3 a b c => simp [chkIt] at h
  | zip i j => cases i <;> cases j <;> simp [chkIt] at h
  | _ => simp [chkIt] at h
theorem PTs.imp {es : List Expr} {t t' : TT} (h : ∀ σ H Q, t' σ H Q → t σ H Q) (p : PTs X es t) : PTs X es t' := ⟨fun pins s σ H Q I q => p.run pins s σ H Q I (h _ _ _ q)⟩
theorem takesF {X : Cx} : Takes X (fun _ _ _ _ => False) := fun _ _ x => by
  obtain ⟨_, _, _, _, _, _, _, _, _, _, _, _, _, _, _, _, z⟩ := x
  exact z.elim
theorem Good.blk (g : Good E C X cx W) (hc : C.calm = true) {scope : Scope} {own : List (Str × Nat)} (ok : BlkOk X.N X.env.scope scope own) {s : Shared} {H : Hp} {c : Addr} {cl : List (Str × Addr)} {fp : List Addr} : Good E (C.blk scope) (X.blk s H scope (compEnvC scope cl c X.env) fp) cx WF :=
  ⟨g.P, g.wd, g.K, g.mg, g.base, g.N, g.nd, by show relS scope X.env.scope = relS scope C.sc; rw [g.sc], g.calm, g.fs, g.fi, g.xs, g.gn, g.fm, g.fk, takesF, g.room, g.un, fun x hx => by
    simp only [Cn.blk, List.mem_map, List.mem_filter, beq_iff_eq] at hx
    obtain ⟨y, ⟨h1, h2⟩, rfl⟩ := hx
    show (scope.names.lookup y.1 == some .cell) = true
    rw [ok.uniq y h1, h2]; rfl, g.nx, .inl (g.nx hc)⟩
theorem chkRev {f : Blt} {a : Ex} {x y : Expr} {p : Pos} (h : chkE C (.blt f (.cons false a .nil)) (.Subscript x y p) = true) : ∃ kk p1 p2 p3, f = .rev ∧ y = .Slice none none (some (.UnaryOp .USub (.Constant (.int 1) kk p1) p2)) p3 ∧ chkE C a x = true := by
  unfold chkE at h
  split at h
  all_goals first
    | (exact absurd h Bool.false_ne_true)
    | (rename_i e1 e2; cases e2; cases e1; exact ⟨_, _, _, _, rfl, rfl, h⟩)
    | (rename_i e1 e2; cases e1; done)
    | (rename_i e1; cases e1; done)
theorem blt_pe (g : Good E C X cx W) (k : EnOk E) {f : Blt} {x : Str} {args : List Expr} {ta : TA} {p pos : Pos} (hf : isRev f = false) (hx : x = bltN f) (hg : isGlo C x = true) (hc : C.calm = true) (hn : noStar args = true) (he : args.isEmpty = false) (ha : PA X args ta) :
    PE X (.Call (.Name x p) args [] pos) (tCB (rBlt E.w f) ta) := by
  subst hx
  obtain ⟨hgl, hd⟩ := g.glo hg
  have hcx : X.calm = true := by rw [g.calm]; exact hc
  cases args with
  | nil => simp at he
  | cons e es =>
    obtain ⟨h1, h2⟩ := noStar_cons hn
    have r := call_blt (X := X) g.K hcx f hf
    cases f <;> first
      | exact pe_callB r hgl (g.blt k (by decide)) (by rfl) ha (by decide) hd (star_of h1) (noStar_any h2)
      | exact pe_callTy r hgl (g.blt k (by decide)) (by rfl) ha (by decide) hd (star_of h1) (noStar_any h2)
theorem isi_pe (g : Good E C X cx W) (k : EnOk E) {a : Ex} {ts : List Ty} {x c : Expr} {p pos : Pos} (hg : isGlo C ("isinstance" : Str) = true) (hs : ∀ y q, x ≠ .Starred y q) (pr : PE X x (tRd E cx W a))
    (hc : (match ts, c with
      | [t], .Name y p => chkTy C t (.Name y p)
      | ts, .Tuple cs _ _ => chkTys C ts cs && ts.all isB && noStar cs && decide (ts.length ≤ limN)
      | _, _ => false) = true) : PE X (.Call (.Name ("isinstance" : Str) p) [x, c] [] pos) (tE E cx W (.isi a ts)) := by
  obtain ⟨hgl, hd⟩ := g.glo hg
  have hnc : ∀ y q, c ≠ .Starred y q := fun y q e => by subst e; split at hc <;> simp_all
  have he : starEach [x, c] X.env = (false, eval x X.env) :: starEach [c] X.env := star_of hs
  have hst : noStar [c] = true := by cases c <;> first | exact absurd rfl (hnc _ _) | rfl
  have hpl : (backTo pos (starEach [c] X.env)).any (·.1) = false := noStar_any hst
  have hm := g.blt k (x := ("isinstance" : Str)) (by decide)
  split at hc
  · rename_i t y p'
    have ht := ty_ok g k hc
    have hb : isB t = true := by
      simp only [chkTy, Bool.and_eq_true] at hc
      exact hc.1.1
    refine PE.imp (fun σ H Q h => ?_) (pe_callB (r := rIsi X.K) call_isi hgl hm (by rfl) (pa_cons pr (pa_cons ht pa_nil (star_of hnc)) he) (by decide) hd he hpl)
    obtain ⟨s, F, own, rs, q⟩ := isi_ok h
    refine ⟨s, F, own, rs, q.mono fun d s' F' H' own' q v hv => ?_⟩
    obtain ⟨F2, d2, sf, hb2, q2⟩ := q v hv
    exact ⟨v, _, _, .type (tyS t), isTys d2 [t], rfl, .ty _, bor_ty g.K sf hb2, by rw [kit_is hb]; simp [isTys], q2 _ _ (.refl sf)⟩
  · skip
    rename_i cs k1 p1
    simp only [Bool.and_eq_true, decide_eq_true_eq] at hc
    obtain ⟨⟨⟨h1, h2⟩, h3⟩, h4⟩ := hc
    refine PE.imp (fun σ H Q h => ?_) (pe_callB (r := rIsiT X.K) call_isiT hgl hm (by rfl) (pa_cons pr (pa_cons (pe_tup (tys_ok g k h1 h3)) pa_nil (star_of hnc)) he) (by decide) hd he hpl)
    obtain ⟨s, F, own, rs, q⟩ := isi_ok h
    refine ⟨s, F, own, rs, q.mono fun d s' F' H' own' q v hv => ?_⟩
    obtain ⟨F2, d2, sf, hb2, q2⟩ := q v hv
    refine ⟨by rw [List.length_map]; exact Nat.le_trans h4 limN_le, fun tp htp => ?_⟩
    have ps := Pst.new (o := .tup (ts.map fun t => V.ty (tyS t))) sf htp
    have hb3 : Bor E.w F2 (upd H' tp (.tup (ts.map fun t => V.ty (tyS t)))) v d2 := by
      rcases hb2 with hb2 | ⟨a, vs, xs, e1, e2, e3, e4, e5⟩
      · exact .inl hb2
      · exact .inr ⟨a, vs, xs, e1, e2, by rw [upd_ne (ne_of_none e3 htp)]; exact e3, e4, e5⟩
    exact ⟨v, tp, _, _, _, isTys d2 ts, rfl, upd_same, clsV_all ts, bor_ty g.K ps.fh hb3, kit_any h2, q2 _ _ ps⟩
  · cases hc
theorem call_pe (g : Good E C X cx W) (k : EnOk E) (fo : FnsOk E) {f : Str} {xs : Exs} {args : List Expr} {p pos : Pos} (hg : isGlo C f = true) (hc : C.calm = true) (hf : f ∈ E.fs) (hn : noStar args = true) (hxs : chkXs C xs args = true) (ha : PA X args (tXs E cx W xs)) : PE X (.Call (.Name f p) args [] pos) (tE E cx W (.call f xs)) := by
  obtain ⟨hgl, hd⟩ := g.glo hg
  obtain ⟨a, fd, ps, h1, h2, h3, h4, h5⟩ := fo.call f hf
  have F : FnOk X.prog X.w X.K X.mg X.base (L2.CX X.prog X.w) E.k a fd ps (spD E f ps.length) := by rw [g.P, g.wd, ← g.K, g.mg, g.base]; exact h4
  have hx := fun σ => passAt g.tk σ
  have hb : Binds X.K fd ps [] := by rw [← g.K]; exact h3
  have hk : PySem.W.keepIn X.K (.ref a) = true := by rw [← g.K]; exact h2
  have e1 : ∀ σ H Q, tE E cx W (.call f xs) σ H Q → tCallSD (spD E f ps.length) [] (WE W) (tXs E cx W xs) σ H Q := fun σ H Q q => by
    obtain ⟨s, F, own, rs, p⟩ := call_ok q
    refine ⟨s, F, own, rs, p.mono fun ds s' F' H' own' q vs hvs => ?_⟩
    obtain ⟨F2, ds2, sf, r, nb, q2⟩ := q vs hvs
    rw [List.append_nil]
    exact q2 _ (by rw [r.length, h5 _ nb])
  cases args with
  | nil =>
    refine ⟨fun pins s σ H Q I h => ?_⟩
    have h' : spD E f ps.length ([] ++ []) H Q (WE W σ) := by
      obtain ⟨s', F', own', rs, p⟩ := e1 σ H Q h
      cases xs with
      | nil => exact Post.fin (a := []) p .refl rs [] .nil
      | cons st _ _ => cases st <;> simp [chkXs] at hxs
    refine wpAny_Call_Name_kw (ld_glob I hgl (by rw [g.mg]; exact h1) ?_ hd)
    exact PySem.W.callWith_K0 I.kIn hk (run_fnSD (us := []) F (g.rm hc) hb .nil (hx σ) I .nil h')
  | cons e es =>
    obtain ⟨hs1, hs2⟩ := noStar_cons hn
    exact PE.imp e1 (pe_callSD F (g.rm hc) hgl (by rw [g.mg]; exact h1) hk hb .nil hx ha hd (star_of hs1) (noStar_any hs2))
theorem cio_pe (g : Good E C X cx W) (k : EnOk E) (fo : FnsOk E) {f x : Str} {i : Nat} {xs : Exs} {args : List Expr} {p px pos : Pos} (hg : isGlo C f = true) (hc : C.calm = true) (hf : f ∈ E.fi) (hi : isLoc C i x = true) (hn : noStar args = true) (ha : PA X args (tXs E cx W xs)) : PE X (.Call (.Name f p) (.Name x px :: args) [] pos) (tE E cx W (.cio f i xs)) := by
  obtain ⟨hgl, hd⟩ := g.glo hg
  obtain ⟨v1, v2, v3, v4⟩ := g.vis hi
  obtain ⟨a, fd, ps, h1, h2, h3, h4, h5, h6⟩ := fo.calI f hf
  have F : FnOk X.prog X.w X.K X.mg X.base (L2.CX X.prog X.w) E.k a fd ps (spI E f ps.length) := by rw [g.P, g.wd, ← g.K, g.mg, g.base]; exact h4
  have hx := fun σ => passAt g.tk σ
  have hb : Binds X.K fd ps [] := by rw [← g.K]; exact h3
  have hk : PySem.W.keepIn X.K (.ref a) = true := by rw [← g.K]; exact h2
  have e1 : ∀ σ H Q, tE E cx W (.cio f i xs) σ H Q → tCallSD (spI E f ps.length) [] (WE W) (tCons (tVar i) (tXs E cx W xs)) σ H Q := fun σ H Q q => by
    obtain ⟨v, e1, s, F, own, rs, p⟩ := cio_ok h6 q
    refine ⟨v, e1, s, F, own, rs, p.mono fun ds s' F' H' own' q vs hvs => ?_⟩
    obtain ⟨F2, io, ds2, r, nb, q2⟩ := q vs hvs
    rw [List.append_nil]
    exact q2 _ (by rw [r.length, h5 _ _ nb])
  have hs : ∀ z q, Expr.Name x px ≠ .Starred z q := fun z q e => by cases e
  exact PE.imp e1 (pe_callSD F (g.rm hc) hgl (by rw [g.mg]; exact h1) hk hb .nil hx (pa_cons (pe_var v1 v2 v3 v4) ha (star_of hs)) hd (star_of hs) (noStar_any hn))
/-- o.m(e, ..), what is raised wished for at the slots -/
def tMethSD (C : Addr) (m : Str) (sp : Sp) (E : L2.St → XK) (ta : TE) (t : TA) : TE := fun σ H Q => ta σ H fun x H1 => ∃ a dx fs, x = .ref a ∧ H1 a = some (.ins C dx fs) ∧ fs.lookup m = none ∧ t σ H1 fun vs H2 => sp (x :: vs) H2 Q (E σ)
theorem pe_methSD {X : Cx} {CX : CXT} {k : Nat} {C f : Addr} {fd : FuncData} {ps : List Str} {sp : Sp} {E : L2.St → XK} {o e : Expr} {es : List Expr} {m : Str} {ta : TE} {t : TA} {apos pos : Pos} {pl : Sem Bool} (he : PE X o ta) (c : Cls X.K C) (hm : Meth X.K C m f) (F : FnOk X.prog X.w X.K X.mg X.base CX k f fd ps sp) (hr : Room k X.A) (hb : Binds X.K fd ps []) (hx : ∀ σ, PassesAt CX X σ (E σ)) (ha : PA X (e :: es) t)
    (hst : starEach (e :: es) X.env = (false, eval e X.env) :: starEach es X.env) (hpl : (backTo pos (starEach es X.env)).any (·.1) = false)
    (ht : eval (.Call (.Attribute o m apos) (e :: es) [] pos) X.env = (do
      let ov ← eval o X.env
      standAt apos.atName
      let (f, first) ← holding [ov] (getMethod ov m pl)
      callWith pos f first (backTo pos (starEach (e :: es) X.env)) (backToKw pos (keywordEach [] X.env))) := by rfl) :
    PE X (.Call (.Attribute o m apos) (e :: es) [] pos) (tMethSD C m sp E ta t) := by
  refine ⟨fun pins s σ H Q I h => ?_⟩
  refine PySem.W.methodCall_KW (pl := pl) (thn (he.run pins s σ H _ I h) fun u s1 ⟨x, H1, I1, rx, a, dx, fs, ex, ea, l, q⟩ => ?_) ht
  subst ex
  obtain rfl : u = Value.ref a := rx
  refine getmeth_ok I1 ea c hm l ?_
  refine PySem.W.callWith_K (first := [.ref a]) (h₀ := X.base) I.ok.mod.kin hm.kp (thn (ha.run pos pins s1 σ H1 _ I1 q) fun us s2 ⟨vs, H2, I2, r, q2⟩ => ⟨I2.kIn, ?_⟩) hst hpl
  exact run_fnSD (us := .ref a :: us) (vs := .ref a :: vs) (dvs := []) F hr hb .nil (hx σ) I2 (.cons rfl r) (by rw [List.append_nil]; exact q2)
theorem pe_methSD0 {X : Cx} {CX : CXT} {k : Nat} {C f : Addr} {fd : FuncData} {ps : List Str} {sp : Sp} {E : L2.St → XK} {o : Expr} {m : Str} {ta : TE} {t : TA} {apos pos : Pos} {pl : Sem Bool} (he : PE X o ta) (c : Cls X.K C) (hm : Meth X.K C m f) (F : FnOk X.prog X.w X.K X.mg X.base CX k f fd ps sp) (hr : Room k X.A) (hb : Binds X.K fd ps []) (hx : ∀ σ, PassesAt CX X σ (E σ)) (ht0 : ∀ σ H Q, t σ H Q → Q [] H)
    (ht : eval (.Call (.Attribute o m apos) [] [] pos) X.env = (do
      let ov ← eval o X.env
      standAt apos.atName
      let (f, first) ← holding [ov] (getMethod ov m pl)
      callWith pos f first (backTo pos (starEach [] X.env)) (backToKw pos (keywordEach [] X.env))) := by rfl) :
    PE X (.Call (.Attribute o m apos) [] [] pos) (tMethSD C m sp E ta t) := by
  refine ⟨fun pins s σ H Q I h => ?_⟩
  refine PySem.W.methodCall_KW (pl := pl) (thn (he.run pins s σ H _ I h) fun u s1 ⟨x, H1, I1, rx, a, dx, fs, ex, ea, l, q⟩ => ?_) ht
  subst ex
  obtain rfl : u = Value.ref a := rx
  refine getmeth_ok I1 ea c hm l ?_
  exact PySem.W.callWith_K0 (first := [.ref a]) I1.kIn hm.kp (run_fnSD (us := [.ref a]) (vs := [.ref a]) (dvs := []) F hr hb .nil (hx σ) I1 (.cons rfl .nil) (ht0 _ _ _ q))
theorem meth_ht {x m : Str} {px ap pos : Pos} {args : List Expr} {env : Env} (hn : noStar args = true) (hl : args.length < 29) (hp : (ap.endLine == pos.line) = true) : eval (.Call (.Attribute (.Name x px) m ap) args [] pos) env = (do
      let ov ← eval (.Name x px) env
      standAt ap.atName
      let (f, first) ← holding [ov] (getMethod ov m (do return (← importBound (.Name x px) env).getD true))
      callWith pos f first (backTo pos (starEach args env)) (backToKw pos (keywordEach [] env))) := by
  have h0 : (backTo pos (starEach args env)).all (fun x => !x.1) = true := by
    have := noStar_any (env := env) (pos := pos) hn
    rw [List.all_eq_not_any_not]
    simpa using this
  have hform : methodCallForm (args.length + ([] : List Keyword).length) (backTo pos (starEach args env)) (backToKw pos (keywordEach [] env)) = true := by
    unfold methodCallForm
    rw [h0]
    have h1 : (backToKw pos (keywordEach [] env)) = [] := rfl
    rw [h1]
    simp; omega
  have hpos : methodCallPos true (.Name x px) env ap pos = pure pos := by unfold methodCallPos; simp [hp]
  have e0 : eval (.Call (.Attribute (.Name x px) m ap) args [] pos) env = (do
      let ov ← eval (.Name x px) env
      standAt ap.atName
      methodCall (.Name x px) m ap pos env ov (args.length + ([] : List Keyword).length) (backTo pos (starEach args env)) (backToKw pos (keywordEach [] env))) := rfl
  rw [e0]
  unfold methodCall
  rw [hform, hpos]
  rfl
theorem mio_pe (g : Good E C X cx W) (k : EnOk E) (fo : FnsOk E) {f c x m : Str} {i : Nat} {xs : Exs} {args : List Expr} {ap px pos : Pos} (hc : C.calm = true) (hf : (f, c, m) ∈ E.fm) (hi : isLoc C i x = true) (hn : noStar args = true) (h29 : args.length < 29) (hln : (ap.endLine == pos.line) = true) (hxs : chkXs C xs args = true) (ha : PA X args (tXs E cx W xs)) : PE X (.Call (.Attribute (.Name x px) m ap) args [] pos) (tE E cx W (.mio f c i xs)) := by
  obtain ⟨v1, v2, v3, v4⟩ := g.vis hi
  obtain ⟨a, fd, ps, h0, h1, h2, h3, h4, h5, h6⟩ := fo.calM (f, c, m) hf
  have F : FnOk X.prog X.w X.K X.mg X.base (L2.CX X.prog X.w) E.k a fd ps (spI E f ps.length) := by rw [g.P, g.wd, ← g.K, g.mg, g.base]; exact h4
  have hx := fun σ => passAt g.tk σ
  have hb : Binds X.K fd ps [] := by rw [← g.K]; exact h3
  have hM : Meth X.K (E.w.ca c) m a := by rw [← g.K]; exact h1
  have hC : Cls X.K (E.w.ca c) := by rw [← g.K]; exact (k.cl c h0).1
  have e1 : ∀ σ H Q, tE E cx W (.mio f c i xs) σ H Q → tMethSD (E.w.ca c) m (spI E f ps.length) (WE W) (tVar i) (tXs E cx W xs) σ H Q := fun σ H Q q => by
    obtain ⟨a, dx, fs, e1, e2, e3, s, F, own, rs, p⟩ := mio_ok h6 q
    refine ⟨.ref a, e1, a, dx, fs, rfl, e2, e3 m h2, s, F, own, rs, p.mono fun ds s' F' H' own' q vs hvs => ?_⟩
    obtain ⟨F2, io, ds2, r, nb, q2⟩ := q vs hvs
    exact q2 _ (by rw [r.length, h5 _ _ nb])
  cases args with
  | nil =>
    have hx0 : xs = .nil := by
      cases xs with
      | nil => rfl
      | cons st _ _ => cases st <;> simp [chkXs] at hxs
    subst hx0
    exact PE.imp e1 (pe_methSD0 (pe_var v1 v2 v3 v4) hC hM F (g.rm hc) hb hx (fun σ H Q q => xs_nil q) (meth_ht hn h29 hln))
  | cons e es =>
    obtain ⟨hs1, hs2⟩ := noStar_cons hn
    exact PE.imp e1 (pe_methSD (pe_var v1 v2 v3 v4) hC hM F (g.rm hc) hb hx ha (star_of hs1) (noStar_any hs2) (meth_ht hn h29 hln))
mutual
theorem snd_e (k : EnOk E) (fo : FnsOk E) : ∀ {il : Ex} {C : Cn} {X : Cx} {W : WX}, Good E C X cx W → ∀ {e : Expr}, chkE C il e = true → Ok E cx W X il e
  | .loc i, C, X, W, g, e, h => by
    cases e with
    | Name x p => exact loc_ok g (by simpa only [chkE] using h)
    | _ => simp [chkE] at h
  | .glo y, C, X, W, g, e, h => by
    cases e with
    | Name x p =>
      simp only [chkE, Bool.and_eq_true, beq_iff_eq] at h
      obtain ⟨⟨rfl, h⟩, hx⟩ := h
      exact glo_ok g k h (by rw [← g.gn]; simpa using hx)
    | _ => simp [chkE] at h
  | .lit l, C, X, W, g, e, h => by
    cases e with
    | Constant c j p => exact lit_ok g (by simpa only [chkE] using h)
    | _ => simp [chkE] at h
  | .bin o a b, C, X, W, g, e, h => by
    cases e with
    | BinOp x op y p =>
      simp only [chkE, Bool.and_eq_true, beq_iff_eq] at h
      obtain ⟨⟨⟨h1, h2⟩, h3⟩, h4⟩ := h
      exact Ok.plain g.K rfl rfl (PE.imp (fun _ _ _ q => bin_ok h2 q) (pe_op (op_bin h1 g.K) (Ok.late (i := 0) (snd_e k fo g h3) (var_of g h3) (fo_of g k h3)) (snd_e k fo g h4).r))
    | _ => simp [chkE] at h
  | .neg a, C, X, W, g, e, h => by
    cases e with
    | UnaryOp op x p =>
      cases op with
      | USub => exact Ok.plain g.K rfl rfl (PE.imp (fun _ _ _ q => neg_ok q) (pe_un un_neg (snd_e k fo g (by simpa only [chkE] using h)).r))
      | _ => simp [chkE] at h
    | _ => simp [chkE] at h
  | .not a, C, X, W, g, e, h => by
    cases e with
    | UnaryOp op x p =>
      cases op with
      | Not =>
        have ok := snd_e k fo g (il := a) (e := x) (by simpa only [chkE] using h)
        exact Ok.mk4 rfl (PE.imp (fun _ _ _ q => not_ok g.K q) (pe_notG ok.r)) (PT.imp (fun _ _ _ q => notT_ok q) (pt_not ok.t))
      | _ => simp [chkE] at h
    | _ => simp [chkE] at h
  | .cmp o a b, C, X, W, g, e, h => by
    cases e with
    | Compare x ops ys p =>
      match ops, ys, h with
      | [op], [y], h =>
        simp only [chkE, Bool.and_eq_true, beq_iff_eq, Bool.not_eq_true'] at h
        obtain ⟨⟨⟨⟨h1, h2⟩, h5⟩, h3⟩, h4⟩ := h
        have po := op_cmp (X := X) h1 g.K g.un
        have pl := Ok.late (i := 0) (b := b) (snd_e k fo g h3) (var_of g h3) (fo_of g k h3)
        have pr := (snd_e k fo g h4).r
        exact Ok.mk4 rfl (PE.imp (fun _ _ _ q => cmp_ok h2 q) (pe_cmpR po pl pr h5)) (PT.imp (fun _ _ _ q => cmp_ok h2 (tT_bl rfl cmp_bl q)) (pt_cmpR po pl pr h5))
      | [], _, h => simp [chkE] at h
      | [_], [], h => simp [chkE] at h
      | [_], _ :: _ :: _, h => simp [chkE] at h
      | _ :: _ :: _, _, h => simp [chkE] at h
    | _ => simp [chkE] at h
  | .chn o q a b c, C, X, W, g, e, h => by
    cases e with
    | Compare x ops ys p =>
      match ops, ys, h with
      | [op, op'], [y, z], h =>
        simp only [chkE, Bool.and_eq_true, beq_iff_eq, Bool.not_eq_true'] at h
        obtain ⟨⟨⟨⟨⟨h1, h2⟩, h3⟩, h4⟩, h5⟩, h6⟩ := h
        have p1 := op_cmp (X := X) h1 g.K g.un
        have p2 := op_cmp (X := X) h2 g.K g.un
        have pa := (snd_e k fo g h4).v
        have pb := (snd_e k fo g h5).v
        have pc := (snd_e k fo g h6).r
        exact Ok.mk4 rfl (PE.imp (fun _ _ _ q => chn_ok q) (pe_chain p1 p2 pa pb pc h3)) (PT.imp (fun _ _ _ q => chn_ok (tT_bl rfl chn_bl q)) (pt_chain p1 p2 pa pb pc h3))
      | [], _, h => simp [chkE] at h
      | [_], _, h => simp [chkE] at h
      | [_, _], [], h => simp [chkE] at h
      | [_, _], [_], h => simp [chkE] at h
      | [_, _], _ :: _ :: _ :: _, h => simp [chkE] at h
      | _ :: _ :: _ :: _, _, h => simp [chkE] at h
    | _ => simp [chkE] at h
  | .chn3 o q r a b c d, C, X, W, g, e, h => by
    cases e with
    | Compare x ops ys p =>
      match ops, ys, h with
      | [op, op', op2], [y, z, u], h =>
        simp only [chkE, Bool.and_eq_true, beq_iff_eq, Bool.not_eq_true'] at h
        obtain ⟨⟨⟨⟨⟨⟨⟨h1, h2⟩, h7⟩, h3⟩, h4⟩, h5⟩, h6⟩, h8⟩ := h
        have p1 := op_cmp (X := X) h1 g.K g.un
        have p2 := op_cmp (X := X) h2 g.K g.un
        have p3 := op_cmp (X := X) h7 g.K g.un
        have pa := (snd_e k fo g h4).v
        have pb := (snd_e k fo g h5).v
        have pc := (snd_e k fo g h6).v
        have pd := (snd_e k fo g h8).r
        exact Ok.mk4 rfl (PE.imp (fun _ _ _ q => chn3_ok q) (pe_chain3 p1 p2 p3 pa pb pc pd h3)) (PT.imp (fun _ _ _ q => chn3_ok (tT_bl rfl chn3_bl q)) (pt_chain3 p1 p2 p3 pa pb pc pd h3))
      | [], _, h => simp [chkE] at h
      | [_], _, h => simp [chkE] at h
      | [_, _], _, h => simp [chkE] at h
      | [_, _, _], [], h => simp [chkE] at h
      | [_, _, _], [_], h => simp [chkE] at h
      | [_, _, _], [_, _], h => simp [chkE] at h
      | [_, _, _], _ :: _ :: _ :: _ :: _, h => simp [chkE] at h
      | _ :: _ :: _ :: _ :: _, _, h => simp [chkE] at h
    | _ => simp [chkE] at h
  | .isl n a l, C, X, W, g, e, h => by
    cases e with
    | Compare x ops ys p =>
      simp only [chkE, Bool.and_eq_true, Bool.or_eq_true, beq_iff_eq] at h
      obtain ⟨h2, h3⟩ := h
      have pr := (snd_e k fo g h3).r
      rcases h2 with ⟨rfl, h2⟩ | h2
      rotate_left
      · obtain ⟨b, j, p', rfl, rfl, rfl⟩ := isBb_ok h2
        cases n with
        | false =>
          have e1 : ∀ σ H Q, tE E cx W (.isl false a (.bl b)) σ H Q → tOp rIsB (tRd E cx W a) (tC (.bl b)) σ H Q := fun σ H Q q => by
            obtain ⟨s, F, own, rs, q⟩ := isB_ok q
            refine ⟨s, F, own, rs, q.mono fun d s' F' H' own' q v hv => ?_⟩
            obtain ⟨c, rfl, q⟩ := q v hv
            exact ⟨c, b, rfl, rfl, by simpa using q⟩
          exact Ok.mk4 rfl (PE.imp e1 (pe_cmpR op_isBl pr pe_bl (by rfl))) (PT.imp (fun _ _ _ q => e1 _ _ _ (tT_bl rfl isl_bl q)) (pt_cmpR op_isBl pr pe_bl (by rfl)))
        | true =>
          have e1 : ∀ σ H Q, tE E cx W (.isl true a (.bl b)) σ H Q → tOp rNotB (tRd E cx W a) (tC (.bl b)) σ H Q := fun σ H Q q => by
            obtain ⟨s, F, own, rs, q⟩ := isB_ok q
            refine ⟨s, F, own, rs, q.mono fun d s' F' H' own' q v hv => ?_⟩
            obtain ⟨c, rfl, q⟩ := q v hv
            exact ⟨c, b, rfl, rfl, by simpa using q⟩
          exact Ok.mk4 rfl (PE.imp e1 (pe_cmpR op_notBl pr pe_bl (by rfl))) (PT.imp (fun _ _ _ q => e1 _ _ _ (tT_bl rfl isl_bl q)) (pt_cmpR op_notBl pr pe_bl (by rfl)))
      obtain ⟨j, p', rfl, rfl⟩ := isNn_ok h2
      cases n with
      | false =>
        have e1 : ∀ σ H Q, tE E cx W (.isl false a .non) σ H Q → tOp (fun x y H Q => y = .non ∧ Q (.bl (decide (x = .non))) H) (tRd E cx W a) (tC .non) σ H Q := fun σ H Q q => by
          obtain ⟨s, F, own, rs, q⟩ := isN_ok q
          exact ⟨s, F, own, rs, q.mono fun d s' F' H' own' q v hv => ⟨rfl, by simpa using q v hv⟩⟩
        exact Ok.mk4 rfl (PE.imp e1 (pe_cmpR op_isN pr pe_non (by rfl))) (PT.imp (fun _ _ _ q => e1 _ _ _ (tT_bl rfl isl_bl q)) (pt_cmpR op_isN pr pe_non (by rfl)))
      | true =>
        have e1 : ∀ σ H Q, tE E cx W (.isl true a .non) σ H Q → tOp (fun x y H Q => y = .non ∧ Q (.bl (!decide (x = .non))) H) (tRd E cx W a) (tC .non) σ H Q := fun σ H Q q => by
          obtain ⟨s, F, own, rs, q⟩ := isN_ok q
          exact ⟨s, F, own, rs, q.mono fun d s' F' H' own' q v hv => ⟨rfl, by simpa using q v hv⟩⟩
        exact Ok.mk4 rfl (PE.imp e1 (pe_cmpR op_notN pr pe_non (by rfl))) (PT.imp (fun _ _ _ q => e1 _ _ _ (tT_bl rfl isl_bl q)) (pt_cmpR op_notN pr pe_non (by rfl)))
    | _ => simp [chkE] at h
  | .and a b, C, X, W, g, e, h => by
    cases e with
    | BoolOp op vs p =>
      cases op with
      | Or => simp [chkE] at h
      | And =>
        match vs, h with
        | [], h => simp [chkE] at h
        | [_], h => simp [chkE] at h
        | x :: y :: r, h =>
          simp only [chkE, Bool.and_eq_true] at h
          have oa := snd_e k fo g h.1
          have ob := snd_e k fo g h.2
          have pv : PE X (.BoolOp .And (y :: r) p) (tE E cx W b) := by
            cases r with
            | nil => exact pe_one ob.v
            | cons _ _ => exact ob.v
          have pw : PW X (.BoolOp .And (y :: r) p) (tTf E cx W b) := by
            cases r with
            | nil => exact pw_and1 ob.f
            | cons _ _ => exact ⟨fun wh pins s σ H Q I q => ob.f.run pins s σ H Q I q⟩
          exact Ok.mk4 rfl (PE.imp (fun _ _ _ q => and_ok g.K q) (pe_andG oa.v pv)) (PT.imp (fun _ _ _ q => andT_ok q) (pw_and oa.f pw).pt)
    | _ => simp [chkE] at h
  | .or a b, C, X, W, g, e, h => by
    cases e with
    | BoolOp op vs p =>
      cases op with
      | And => simp [chkE] at h
      | Or =>
        match vs, h with
        | [], h => simp [chkE] at h
        | [_], h => simp [chkE] at h
        | x :: y :: r, h =>
          simp only [chkE, Bool.and_eq_true] at h
          have oa := snd_e k fo g h.1
          have ob := snd_e k fo g h.2
          have pv : PE X (.BoolOp .Or (y :: r) p) (tE E cx W b) := by
            cases r with
            | nil => exact pe_one ob.v
            | cons _ _ => exact ob.v
          have pw : PW X (.BoolOp .Or (y :: r) p) (tTf E cx W b) := by
            cases r with
            | nil => exact pw_or1 ob.f
            | cons _ _ => exact ⟨fun wh pins s σ H Q I q => ob.f.run pins s σ H Q I q⟩
          exact Ok.mk4 rfl (PE.imp (fun _ _ _ q => or_ok g.K q) (pe_orG oa.v pv)) (PT.imp (fun _ _ _ q => orT_ok q) (pw_or oa.f pw).pt)
    | _ => simp [chkE] at h
  | .ite c a b, C, X, W, g, e, h => by
    cases e with
    | IfExp z x y p =>
      simp only [chkE, Bool.and_eq_true] at h
      have oc := snd_e k fo g h.1.1
      have oa := snd_e k fo g h.1.2
      have ob := snd_e k fo g h.2
      exact Ok.mk4 rfl (PE.imp (fun _ _ _ q => ite_ok q) (pe_ifExp oc.t oa.v ob.v)) (PT.imp (fun _ _ _ q => iteT_ok q) (pt_ifG oc.t oa.f ob.f))
    | _ => simp [chkE] at h
  | .tup xs, C, X, W, g, e, h => by
    cases e with
    | Tuple es j p => exact Ok.plain g.K rfl rfl (PE.imp (fun _ _ _ q => tup_ok q) (pe_tupN (snd_xs k fo g (by simpa only [chkE] using h))))
    | _ => simp [chkE] at h
  | .lst xs, C, X, W, g, e, h => by
    cases e with
    | List es p => exact Ok.plain g.K rfl rfl (PE.imp (fun _ _ _ q => lst_ok q) (pe_lst (snd_xs k fo g (by simpa only [chkE] using h))))
    | _ => simp [chkE] at h
  | .ix a b, C, X, W, g, e, h => by
    cases e with
    | Subscript x y p =>
      simp only [chkE, Bool.and_eq_true] at h
      obtain ⟨⟨h2, h3⟩, h4⟩ := h
      refine Ok.plain g.K rfl rfl (PE.imp (fun _ _ _ q => ix_ok h2 q) (pe_ix (ix_d g.K g.un) (Ok.late (i := 0) (snd_e k fo g h3) (var_of g h3) (fo_of g k h3)) (snd_e k fo g h4).r ?_))
      have hy : ∀ l u t q, y ≠ .Slice l u t q := fun l u t q e => by subst e; exact absurd h4 (by cases b <;> simp [chkE, shLc, shLc2, shDct])
      intro o i
      cases y <;> first | rfl | exact absurd rfl (hy _ _ _ _)
    | _ => simp [chkE] at h
  | .sl a lo hi, C, X, W, g, e, h => by
    cases e with
    | Subscript x y p =>
      cases y with
      | Slice l u t q =>
        cases t with
        | none =>
          simp only [chkE, Bool.and_eq_true] at h
          obtain ⟨⟨⟨h2, h3⟩, h4⟩, h5⟩ := h
          exact Ok.plain g.K rfl rfl (PE.imp (fun _ _ _ q => sl_ok h2 q) (pe_slice (sl_d g.K) (lateO_pe (snd_e k fo g h3) (var_of g h3) (fo_of g k h3)) (snd_o k fo g h4) (snd_o k fo g h5)))
        | some _ => simp [chkE] at h
      | _ => simp [chkE] at h
    | _ => simp [chkE] at h
  | .call f xs, C, X, W, g, e, h => by
    cases e with
    | Call fe args kw p =>
      cases fe with
      | Name x px =>
        cases kw with
        | cons _ _ => simp [chkE] at h
        | nil =>
          simp only [chkE, Bool.and_eq_true, beq_iff_eq] at h
          obtain ⟨⟨⟨⟨⟨rfl, h2⟩, h3⟩, h6⟩, h4⟩, h5⟩ := h
          exact Ok.plain g.K rfl rfl (call_pe g k fo h2 h3 (by rw [← g.fs]; simpa using h6) h4 h5 (snd_xs k fo g h5))
      | _ => simp [chkE] at h
    | _ => simp [chkE] at h
  | .blt f xs, C, X, W, g, e, h => by
    cases e with
    | Call fe args kw p =>
      cases fe with
      | Name x px =>
        cases kw with
        | cons _ _ => simp [chkE] at h
        | nil =>
          simp only [chkE, Bool.and_eq_true, beq_iff_eq, Bool.not_eq_true'] at h
          obtain ⟨⟨⟨⟨⟨⟨h0, h1⟩, h2⟩, h3⟩, h4⟩, h5⟩, h6⟩ := h
          refine Ok.plain g.K rfl rfl ?_
          cases xs with
          | nil => exact PE.imp (fun _ _ _ q => blt_ok rfl q) (blt_pe g k h0 h1 h2 h3 h4 h5 (snd_xs k fo g h6))
          | cons st a r =>
            cases st with
            | true => exact PE.imp (fun _ _ _ q => blt_ok rfl q) (blt_pe g k h0 h1 h2 h3 h4 h5 (snd_xs k fo g h6))
            | false =>
              cases r with
              | cons _ _ _ => exact PE.imp (fun _ _ _ q => blt_ok rfl q) (blt_pe g k h0 h1 h2 h3 h4 h5 (snd_xs k fo g h6))
              | nil =>
                match args, h4, h5, h6 with
                | [], _, h5, _ => simp at h5
                | y :: z :: _, _, _, h6 => simp [chkXs] at h6
                | [y], h4, h5, h6 =>
                  simp only [chkXs, Bool.and_true] at h6
                  exact PE.imp (fun _ _ _ q => blt_ok1 q) (blt_pe g k h0 h1 h2 h3 h4 h5 (pa_cons (snd_e k fo g h6).r pa_nil (star_of (noStar_cons h4).1)))
      | _ => simp [chkE] at h
    | Subscript x y p =>
      cases xs with
      | nil => simp [chkE] at h
      | cons st a r =>
        cases st with
        | true => simp [chkE] at h
        | false =>
          cases r with
          | cons _ _ _ => simp [chkE] at h
          | nil =>
            obtain ⟨kk, p1, p2, p3, rfl, rfl, h1⟩ := chkRev h
            exact Ok.plain g.K rfl rfl (PE.imp (fun _ _ _ q => rev_ok g.K q) (pe_revL (snd_e k fo g h1).r))
    | _ => simp [chkE] at h
  | .isi a ts, C, X, W, g, e, h => by
    cases e with
    | Call fe args kw p =>
      cases fe with
      | Name x px =>
        cases kw with
        | cons _ _ => simp [chkE] at h
        | nil =>
          match args, h with
          | [], h => simp [chkE] at h
          | [_], h => simp [chkE] at h
          | _ :: _ :: _ :: _, h => simp [chkE] at h
          | [y, c], h =>
            simp only [chkE, Bool.and_eq_true, beq_iff_eq] at h
            obtain ⟨⟨⟨rfl, h2⟩, h3⟩, h4⟩ := h
            refine Ok.plain g.K rfl rfl (isi_pe g k h2 (fun z q e => ?_) (snd_e k fo g h3).r h4)
            subst e
            exact absurd h3 (by cases a <;> simp [chkE, shLc, shLc2, shDct])
      | _ => simp [chkE] at h
    | _ => simp [chkE] at h
  | .mth m o xs, C, X, W, g, e, h => by
    cases e with
    | Call fe args kw cp =>
      cases fe with
      | Attribute x n ap =>
        cases kw with
        | cons _ _ => simp [chkE] at h
        | nil =>
          cases m with
          | index =>
            match xs, args, h with
            | .cons false a .nil, [y], h =>
              simp only [chkE, Bool.and_eq_true, beq_iff_eq] at h
              obtain ⟨⟨⟨⟨⟨rfl, h2⟩, h3⟩, h4⟩, h5⟩, h6⟩ := h
              have hs := (noStar_cons h4).1
              refine Ok.plain g.K rfl rfl (PE.imp (fun _ _ _ q => mthI_ok g.K q) (pe_tm PySem.F.plainAttrs_tuple PySem.F.slot_tuple_index PySem.F.type_tuple_index (mt_idx g.K) (snd_e k fo g h5).v (PA.imp (fun _ _ _ q => xs_cons q) (pa_cons (snd_e k fo g h6).v (PA.imp (fun _ _ _ q => xs_nil q) pa_nil) (star_of hs))) (base_of h3) ?_ (by rw [h2]; exact beq_self_eq_true _) (star_of hs) rfl))
              rw [star_of hs]
              rfl
            | .nil, _, h => simp [chkE] at h
            | .cons true _ _, _, h => simp [chkE] at h
            | .cons false _ (.cons _ _ _), _, h => simp [chkE] at h
            | .cons false _ .nil, [], h => simp [chkE] at h
            | .cons false _ .nil, _ :: _ :: _, h => simp [chkE] at h
          | count =>
            match xs, args, h with
            | .cons false a .nil, [y], h =>
              simp only [chkE, Bool.and_eq_true, beq_iff_eq] at h
              obtain ⟨⟨⟨⟨⟨rfl, h2⟩, h3⟩, h4⟩, h5⟩, h6⟩ := h
              have hs := (noStar_cons h4).1
              refine Ok.plain g.K rfl rfl (PE.imp (fun _ _ _ q => mthC_ok g.K q) (pe_lm PySem.F.plainAttrs_list PySem.F.slot_list_count PySem.F.type_list_count (mt_cnt g.K) (snd_e k fo g h5).v (PA.imp (fun _ _ _ q => xs_cons q) (pa_cons (snd_e k fo g h6).v (PA.imp (fun _ _ _ q => xs_nil q) pa_nil) (star_of hs))) (base_of h3) ?_ (by rw [h2]; exact beq_self_eq_true _) (star_of hs) rfl))
              rw [star_of hs]
              rfl
            | .nil, _, h => simp [chkE] at h
            | .cons true _ _, _, h => simp [chkE] at h
            | .cons false _ (.cons _ _ _), _, h => simp [chkE] at h
            | .cons false _ .nil, [], h => simp [chkE] at h
            | .cons false _ .nil, _ :: _ :: _, h => simp [chkE] at h
          | kinds => simp [chkE] at h
          | bits =>
            match xs, args, h with
            | .nil, [], h =>
              simp only [chkE, Bool.and_eq_true, beq_iff_eq] at h
              obtain ⟨⟨⟨rfl, h2⟩, h3⟩, h4⟩ := h
              exact Ok.plain g.K rfl rfl (PE.imp (fun _ _ _ q => mthB_ok q) (pe_bits (snd_e k fo g h4).v (base_of h3) (by rw [h2]; exact beq_self_eq_true _)))
            | .nil, _ :: _, h => simp [chkE] at h
            | .cons _ _ _, _, h => simp [chkE] at h
      | Name z pz =>
        cases m with
        | kinds =>
          match xs, args, kw, h with
          | .nil, [.Call (.Name y py) [x] [] q], [], h =>
            simp only [chkE, Bool.and_eq_true, beq_iff_eq] at h
            obtain ⟨⟨⟨⟨⟨⟨rfl, rfl⟩, h2⟩, h3⟩, h4⟩, h5⟩, h6⟩ := h
            have g1 := g.glo h2
            have g2 := g.glo h3
            exact Ok.plain g.K rfl rfl (PE.imp (fun _ _ _ q => mthK_ok g.K q) (pe_kinds (by rw [g.calm]; exact h4) g1.1 (g.blt k (by decide)) g2.1 (g.blt k (by decide)) (snd_e k fo g h6).v (star_of (noStar_cons h5).1)))
          | .cons _ _ _, _, _, h => simp [chkE] at h
          | .nil, [], _, h => simp [chkE] at h
        | _ => simp [chkE] at h
      | _ => simp [chkE] at h
    | _ => simp [chkE] at h
  | .cio f i xs, C, X, W, g, e, h => by
    cases e with
    | Call fe args kw p =>
      cases fe with
      | Name x px =>
        cases kw with
        | cons _ _ => simp [chkE] at h
        | nil =>
          match args, h with
          | [], h => simp [chkE] at h
          | y :: args, h =>
            cases y with
            | Name z pz =>
              simp only [chkE, Bool.and_eq_true, beq_iff_eq] at h
              obtain ⟨⟨⟨⟨⟨⟨rfl, h2⟩, h3⟩, h6⟩, h7⟩, h4⟩, h5⟩ := h
              exact Ok.plain g.K rfl rfl (cio_pe g k fo h2 h3 (by rw [← g.fi]; simpa using h6) h7 h4 (snd_xs k fo g h5))
            | _ => simp [chkE] at h
      | _ => simp [chkE] at h
    | _ => simp [chkE] at h
  | .fo i f, C, X, W, g, e, h => by
    cases e with
    | Attribute o n p =>
      cases o with
      | Name x px =>
        simp only [chkE, Bool.and_eq_true, beq_iff_eq] at h
        obtain ⟨rfl, h2⟩ := h
        exact fo_ok g k h2
      | _ => simp [chkE] at h
    | _ => simp [chkE] at h
  | .mio f c i xs, C, X, W, g, e, h => by
    cases e with
    | Call fe args kw p =>
      cases fe with
      | Attribute o m ap =>
        cases o with
        | Name x px =>
          cases kw with
          | cons _ _ => simp [chkE] at h
          | nil =>
            simp only [chkE, Bool.and_eq_true, decide_eq_true_eq] at h
            obtain ⟨⟨⟨⟨⟨⟨h1, h2⟩, h3⟩, h4⟩, h6⟩, h7⟩, h5⟩ := h
            exact Ok.plain g.K rfl rfl (mio_pe g k fo h1 (by rw [← g.fm]; simpa using h2) h3 h4 h6 h7 h5 (snd_xs k fo g h5))
        | _ => simp [chkE] at h
      | _ => simp [chkE] at h
    | _ => simp [chkE] at h
  | .fld i f, C, X, W, g, e, h => by
    cases e with
    | Attribute o n p =>
      cases o with
      | Name x px =>
        simp only [chkE, Bool.and_eq_true, beq_iff_eq] at h
        obtain ⟨rfl, h2⟩ := h
        exact fld_ok g k h2
      | _ => simp [chkE] at h
    | _ => simp [chkE] at h
  | .isx i, C, X, W, g, e, h => by simp [chkE] at h
  | .dct vs t it kk e, C, X, W, g, x, h => by
    simp only [chkE] at h
    split at h
    · rename_i kx vx tg iter scope pos hsh
      have hsh := shDct_ok hsh
      subst hsh
      simp only [Bool.and_eq_true] at h
      obtain ⟨⟨⟨⟨⟨⟨h0, h1⟩, h2⟩, h3⟩, h4⟩, h5⟩, h6⟩ := h
      have ok : BlkOk X.N X.env.scope scope (ownV C vs) := by rw [g.N, g.sc]; exact blkOk_by h1
      have gb := fun s H c cl fp => g.blk h0 ok (s := s) (H := H) (c := c) (cl := cl) (fp := fp)
      refine Ok.plain g.K rfl rfl (PE.imp (fun _ _ _ q => dct_ok (Tg.sub_ok h2) q) ?_)
      have := pe_dc (tk := tE E cx WF kk) (tv := tE E cx WF e) (g := tG E cx t) (tt := tYes) (by rw [g.calm]; exact h0) (by rw [g.N]; exact g.nd) (snd_it k fo g h3) ok (fun s H c cl fp => snd_g (gb s H c cl fp) h0 h4) (fun s H c cl fp => pts_nil) (fun s H c cl fp => (snd_e k fo (gb s H c cl fp) h5).v) (fun s H c cl fp => (snd_e k fo (gb s H c cl fp) h6).v) (folded_pure (noSet h3)) (pos := pos)
      rw [ownV_snd] at this
      exact this
    · cases h
  | .lc vs t it c e, C, X, W, g, x, h => by
    simp only [chkE] at h
    split at h
    · rename_i elt tg iter ifs scope pos hsh
      have hsh := shLc_ok hsh
      subst hsh
      simp only [Bool.and_eq_true] at h
      obtain ⟨⟨⟨⟨⟨⟨h0, h1⟩, h2⟩, h3⟩, h4⟩, h5⟩, h6⟩ := h
      have ok : BlkOk X.N X.env.scope scope (ownV C vs) := by rw [g.N, g.sc]; exact blkOk_by h1
      have gb := fun s H c cl fp => g.blk h0 ok (s := s) (H := H) (c := c) (cl := cl) (fp := fp)
      refine Ok.plain g.K rfl rfl (PE.imp (fun _ _ _ q => lc_ok (Tg.sub_ok h2) q) ?_)
      have := pe_lc (te := tE E cx WF e) (g := tG E cx t) (tt := tCn E cx WF c) (by rw [g.calm]; exact h0) (by rw [g.N]; exact g.nd) (snd_it k fo g h3) ok (fun s H c cl fp => snd_g (gb s H c cl fp) h0 h4) (fun s H c cl fp => snd_c k fo (gb s H c cl fp) h5) (fun s H c cl fp => (snd_e k fo (gb s H c cl fp) h6).v) (folded_pure (noSet h3)) (pos := pos)
      rw [ownV_snd] at this
      exact this
    · cases h
  | .lcO vs t i c e, C, X, W, g, x, h => by
    simp only [chkE] at h
    split at h
    · rename_i elt tg y py ifs scope pos hsh
      have hsh := shLc_ok hsh
      subst hsh
      simp only [Bool.and_eq_true] at h
      obtain ⟨⟨⟨⟨⟨⟨h0, h1⟩, h2⟩, h3⟩, h4⟩, h5⟩, h6⟩ := h
      have ok : BlkOk X.N X.env.scope scope (ownV C vs) := by rw [g.N, g.sc]; exact blkOk_by h1
      have gb := fun s H c cl fp => g.blk h0 ok (s := s) (H := H) (c := c) (cl := cl) (fp := fp)
      obtain ⟨v1, v2, v3, v4⟩ := g.vis h3
      refine Ok.plain g.K rfl rfl (PE.imp (fun _ _ _ q => lcO_ok g.K (Tg.sub_ok h2) q) ?_)
      have := pe_lc (te := tE E cx WF e) (g := tG E cx t) (tt := tCn E cx WF c) (by rw [g.calm]; exact h0) (by rw [g.N]; exact g.nd) (pi_seq (pe_var (pos := py) v1 v2 v3 v4)) ok (fun s H c cl fp => snd_g (gb s H c cl fp) h0 h4) (fun s H c cl fp => snd_c k fo (gb s H c cl fp) h5) (fun s H c cl fp => (snd_e k fo (gb s H c cl fp) h6).v) (folded_pure (e := .Name y py) (fun _ _ _ e => by cases e)) (pos := pos)
      rw [ownV_snd] at this
      exact this
    · cases h
  | .lc2 vs vs1 t it t1 it1 e, C, X, W, g, x, h => by
    simp only [chkE] at h
    split at h
    · rename_i elt tg iter tg1 iter1 scope pos hsh
      have hsh := shLc2_ok hsh
      subst hsh
      simp only [Bool.and_eq_true, List.all_eq_true] at h
      obtain ⟨⟨⟨⟨⟨⟨⟨⟨⟨h0, h1⟩, h2⟩, h3⟩, h4⟩, h5⟩, h6⟩, h7⟩, h8⟩, h9⟩ := h
      have ok : BlkOk X.N X.env.scope scope (ownV C vs) := by rw [g.N, g.sc]; exact blkOk_by h1
      have gb := fun s H c cl fp => g.blk h0 ok (s := s) (H := H) (c := c) (cl := cl) (fp := fp)
      have hv : ∀ j, j ∈ vs1 → j ∈ vs := fun j hj => by simpa using h2 j hj
      refine Ok.plain g.K rfl rfl (PE.imp (fun _ _ _ q => lc2_ok (Tg.sub_ok h3) (Tg.sub_ok h4) hv q) ?_)
      have := pe_lc2 (te := tE E cx WF e) (g := tG E cx t) (g1 := tG E cx t1) (tt := tYes) (tt1 := tYes) (wi1 := tI E cx WF it1) (vs1 := vs1) (by rw [g.calm]; exact h0) (by rw [g.N]; exact g.nd) (snd_it k fo g h5) ok (fun j hj => by rw [ownV_snd]; exact hv j hj)
        (fun s H c cl fp => snd_g (gb s H c cl fp) h0 h6) (fun s H c cl fp => pts_nil) (fun s H c cl fp => snd_it k fo (gb s H c cl fp) h7) (fun s H c cl fp => snd_g (gb s H c cl fp) h0 h8) (fun s H c cl fp => pts_nil) (fun s H c cl fp => (snd_e k fo (gb s H c cl fp) h9).v) (folded_pure (noSet h5)) (fun env => folded_pure (noSet h7)) (pos := pos)
      rw [ownV_snd] at this
      exact this
    · cases h
termination_by structural il => il
theorem snd_it (k : EnOk E) (fo : FnsOk E) : ∀ {it : IL.It} {C : Cn} {X : Cx} {W : WX}, Good E C X cx W → ∀ {tg e : Expr}, chkIt C it tg e = true → PI X tg e (tI E cx W it)
  | .seq a, C, X, W, g, tg, e, h => PI.imp (fun _ _ _ q => seq_ok g.K q) (pi_seq (snd_e k fo g (by simpa only [chkIt] using h)).v)
  | .rng a, C, X, W, g, tg, e, h => by
    obtain ⟨n, p, x, q, rfl, z⟩ := chkIt_rng h
    obtain ⟨z, h4⟩ := and_nz z
    obtain ⟨z, h3⟩ := and_nz z
    obtain ⟨z, h2⟩ := and_nz z
    obtain rfl := beq_iff_eq.mp z
    have hs := star_of (env := X.env) (es := []) (noStar_cons h3).1
    exact PI.imp (fun _ _ _ q => rng1_ok q) (pi_range1 (g.glo h2).1 (g.blt k (by decide)) (pa_cons (snd_e k fo g h4).v pa_nil hs) hs)
  | .rng2 a b, C, X, W, g, tg, e, h => by
    obtain ⟨n, p, x, y, q, rfl, z⟩ := chkIt_rng2 h
    obtain ⟨z, h5⟩ := and_nz z
    obtain ⟨z, h4⟩ := and_nz z
    obtain ⟨z, h3⟩ := and_nz z
    obtain ⟨z, h2⟩ := and_nz z
    obtain rfl := beq_iff_eq.mp z
    obtain ⟨q1, q2⟩ := noStar_cons h3
    have hs2 := star_of (env := X.env) (es := []) (noStar_cons q2).1
    have hs := star_of (env := X.env) (es := [y]) q1
    exact PI.imp (fun _ _ _ q => rng2_ok q) (pi_range2 (g.glo h2).1 (g.blt k (by decide)) (pa_cons (snd_e k fo g h4).v (pa_cons (snd_e k fo g h5).v pa_nil hs2) hs) (by rw [hs, hs2]; rfl) hs2)
  | .enum (.seq a), C, X, W, g, tg, e, h => by
    obtain ⟨es, kk, tp, n, p, x, q, rfl, rfl, z⟩ := chkIt_enum h
    obtain ⟨z, h4⟩ := and_nz z
    obtain ⟨z, h3⟩ := and_nz z
    obtain ⟨z, h2⟩ := and_nz z
    obtain rfl := beq_iff_eq.mp z
    have hs := star_of (env := X.env) (es := []) (noStar_cons h3).1
    exact PI.imp (fun _ _ _ q => enum_ok g.K q) (pi_enumN (g.glo h2).1 (g.blt k (by decide)) (pa_cons (snd_e k fo g h4).v pa_nil hs) hs)
  | .zip (.seq a) (.seq b), C, X, W, g, tg, e, h => by
    obtain ⟨es, kk, tp, n, p, x, y, q, rfl, rfl, z⟩ := chkIt_zip h
    obtain ⟨z, h5⟩ := and_nz z
    obtain ⟨z, h4⟩ := and_nz z
    obtain ⟨z, h3⟩ := and_nz z
    obtain ⟨z, h2⟩ := and_nz z
    obtain rfl := beq_iff_eq.mp z
    obtain ⟨q1, q2⟩ := noStar_cons h3
    have hs2 := star_of (env := X.env) (es := []) (noStar_cons q2).1
    have hs := star_of (env := X.env) (es := [y]) q1
    exact PI.imp (fun _ _ _ q => zip_ok g.K q) (pi_zipN (g.glo h2).1 (g.blt k (by decide)) (pa_cons (snd_e k fo g h4).v (pa_cons (snd_e k fo g h5).v pa_nil hs2) hs) hs (by rw [hs2]; rfl))
  | .zip3 a b c, C, X, W, g, tg, e, h => by
    obtain ⟨es, kk, tp, n, p, x, y, u, q, rfl, rfl, z⟩ := chkIt_zip3 h
    obtain ⟨z, h6⟩ := and_nz z
    obtain ⟨z, h5⟩ := and_nz z
    obtain ⟨z, h4⟩ := and_nz z
    obtain ⟨z, h3⟩ := and_nz z
    obtain ⟨z, h2⟩ := and_nz z
    obtain rfl := beq_iff_eq.mp z
    obtain ⟨q1, q2⟩ := noStar_cons h3
    obtain ⟨q3, q4⟩ := noStar_cons q2
    have hs3 := star_of (env := X.env) (es := []) (noStar_cons q4).1
    have hs2 := star_of (env := X.env) (es := [u]) q3
    have hs := star_of (env := X.env) (es := [y, u]) q1
    exact PI.imp (fun _ _ _ q => zip3_ok g.K q) (pi_zipN3 (g.glo h2).1 (g.blt k (by decide)) (pa_cons (snd_e k fo g h4).v (pa_cons (snd_e k fo g h5).v (pa_cons (snd_e k fo g h6).v pa_nil hs3) hs2) hs) hs (by rw [hs2, hs3]; rfl))
  | .enum (.zip3 _ _ _), C, X, W, g, tg, e, h => by simp [chkIt] at h
  | .enum (.rng _), C, X, W, g, tg, e, h => by simp [chkIt] at h
  | .enum (.rng2 _ _), C, X, W, g, tg, e, h => by simp [chkIt] at h
  | .enum (.enum _), C, X, W, g, tg, e, h => by simp [chkIt] at h
  | .enum (.zip (.seq a) (.seq b)), C, X, W, g, tg, e, h => by
    obtain ⟨es, kk, tp, n, p, n2, p2, x, y, q2, q, rfl, rfl, z⟩ := chkIt_enumZ h
    obtain ⟨z, h7⟩ := and_nz z
    obtain ⟨z, h6⟩ := and_nz z
    obtain ⟨z, h5⟩ := and_nz z
    obtain ⟨z, h4⟩ := and_nz z
    obtain ⟨z, h3⟩ := and_nz z
    obtain ⟨z, h2⟩ := and_nz z
    obtain rfl := beq_iff_eq.mp z
    obtain rfl := beq_iff_eq.mp h3
    obtain ⟨q1, q2⟩ := noStar_cons h5
    have hs2 := star_of (env := X.env) (es := []) (noStar_cons q2).1
    have hs := star_of (env := X.env) (es := [y]) q1
    exact PI.imp (fun _ _ _ q => enumZ_ok g.K q) (pi_enumZ (g.glo h2).1 (g.blt k (by decide)) (g.glo h4).1 (g.blt k (by decide)) (pa_cons (snd_e k fo g h6).v (pa_cons (snd_e k fo g h7).v pa_nil hs2) hs) hs (by rw [hs2]; rfl))
  | .enum (.zip (.seq _) (.rng _)), C, X, W, g, tg, e, h => by simp [chkIt] at h
  | .enum (.zip (.seq _) (.rng2 _ _)), C, X, W, g, tg, e, h => by simp [chkIt] at h
  | .enum (.zip (.seq _) (.enum _)), C, X, W, g, tg, e, h => by simp [chkIt] at h
  | .enum (.zip (.seq _) (.zip _ _)), C, X, W, g, tg, e, h => by simp [chkIt] at h
  | .enum (.zip (.seq _) (.zip3 _ _ _)), C, X, W, g, tg, e, h => by simp [chkIt] at h
  | .enum (.zip (.rng _) _), C, X, W, g, tg, e, h => by simp [chkIt] at h
  | .enum (.zip (.rng2 _ _) _), C, X, W, g, tg, e, h => by simp [chkIt] at h
  | .enum (.zip (.enum _) _), C, X, W, g, tg, e, h => by simp [chkIt] at h
  | .enum (.zip (.zip _ _) _), C, X, W, g, tg, e, h => by simp [chkIt] at h
  | .enum (.zip (.zip3 _ _ _) _), C, X, W, g, tg, e, h => by simp [chkIt] at h
  | .zip (.rng _) _, C, X, W, g, tg, e, h => by simp [chkIt] at h
  | .zip (.rng2 _ _) _, C, X, W, g, tg, e, h => by simp [chkIt] at h
  | .zip (.enum _) _, C, X, W, g, tg, e, h => by simp [chkIt] at h
  | .zip (.zip _ _) _, C, X, W, g, tg, e, h => by simp [chkIt] at h
  | .zip (.zip3 _ _ _) _, C, X, W, g, tg, e, h => by simp [chkIt] at h
  | .zip (.seq _) (.rng _), C, X, W, g, tg, e, h => by simp [chkIt] at h
  | .zip (.seq _) (.rng2 _ _), C, X, W, g, tg, e, h => by simp [chkIt] at h
  | .zip (.seq _) (.enum _), C, X, W, g, tg, e, h => by simp [chkIt] at h
  | .zip (.seq _) (.zip _ _), C, X, W, g, tg, e, h => by simp [chkIt] at h
  | .zip (.seq _) (.zip3 _ _ _), C, X, W, g, tg, e, h => by simp [chkIt] at h
termination_by structural it => it
theorem snd_c (k : EnOk E) (fo : FnsOk E) : ∀ {c : Oex} {C : Cn} {X : Cx} {W : WX}, Good E C X cx W → ∀ {es : List Expr}, chkC C c es = true → PTs X es (tCn E cx W c)
  | .no, C, X, W, g, es, h => by
    cases es with
    | nil => exact PTs.imp (fun σ H Q ⟨s, F, own, rs, p⟩ => Post.fin (a := true) p .refl rs) pts_nil
    | cons _ _ => simp [chkC] at h
  | .yes e, C, X, W, g, es, h => by
    match es, h with
    | [], h => simp [chkC] at h
    | [x], h => exact PTs.imp (fun _ _ _ q => q) (pts_one (snd_e k fo g (by simpa only [chkC] using h)).t)
    | _ :: _ :: _, h => simp [chkC] at h
termination_by structural c => c
theorem snd_xs (k : EnOk E) (fo : FnsOk E) : ∀ {xs : Exs} {C : Cn} {X : Cx} {W : WX}, Good E C X cx W → ∀ {es : List Expr}, chkXs C xs es = true → PA X es (tXs E cx W xs)
  | .nil, C, X, W, g, es, h => by
    cases es with
    | nil => exact PA.imp (fun _ _ _ q => xs_nil q) pa_nil
    | cons _ _ => simp [chkXs] at h
  | .cons false e r, C, X, W, g, es, h => by
    cases es with
    | nil => simp [chkXs] at h
    | cons y es =>
      have hs : ∀ z q, y ≠ .Starred z q := fun z q e' => by
        subst e'
        simp only [chkXs, Bool.and_eq_true] at h
        exact absurd h.1 (by cases e <;> simp [chkE, shLc, shLc2, shDct])
      simp only [chkXs, Bool.and_eq_true] at h
      exact PA.imp (fun _ _ _ q => xs_cons q) (pa_cons (snd_e k fo g h.1).v (snd_xs k fo g h.2) (star_of hs))
  | .cons true e r, C, X, W, g, es, h => by
    cases es with
    | nil => simp [chkXs] at h
    | cons y es =>
      cases y with
      | Starred z q =>
        simp only [chkXs, Bool.and_eq_true] at h
        exact PA.imp (fun _ _ _ q => xs_star g.K q) (StX.pa_star (snd_e k fo g h.1).v (snd_xs k fo g h.2))
      | _ => simp [chkXs] at h
termination_by structural xs => xs
theorem snd_o (k : EnOk E) (fo : FnsOk E) : ∀ {o : Oex} {C : Cn} {X : Cx} {W : WX}, Good E C X cx W → ∀ {e : Option Expr}, chkO C o e = true → PO X e (tOx E cx W o)
  | .no, C, X, W, g, e, h => by
    cases e with
    | none => exact PO.imp (fun _ _ _ q => ox_no q) po_none
    | some _ => simp [chkO] at h
  | .yes a, C, X, W, g, e, h => by
    cases e with
    | none => simp [chkO] at h
    | some x => exact PO.imp (fun _ _ _ q => ox_yes q) (po_some (snd_e k fo g (by simpa only [chkO] using h)).r)
termination_by structural o => o
end
end
end IL
end
section
set_option maxHeartbeats 4000000
namespace IL
open PySem PySem.Spec PyProof.Rows L2
/-- a def's entry: the heaps, what its first slot owns, its first parameter where it may be changed -/
structure Gs where
  F0 : Hp
  H0 : Hp
  ow : List Addr
  v0 : Option V
/-- what holds all through a def's body -/
structure Inb (G : Gs) (σ : L2.St) (F H : Hp) (own : Nat → List Addr) : Prop where
  fr : Frm false G.F0 G.H0 (own0 G.ow) F H own
  v0 : ∀ v, G.v0 = some v → σ[0]? = some (some v)
/-- a value given back -/
def RVal (w : Wo) (G : Gs) (F H : Hp) (own : Nat → List Addr) (v : V) (d : D) (fr : Bool) : Prop := Val w G.H0 F H (own0 (if G.v0.isSome then own 0 else [])) v d fr
section
variable (w : Wo) (cx : Cxs) (W : WX) (G : Gs)
def PostS (F : Hp) (r : R Fl) (Dn : Ends) : Prop := match r with
  | .ok .nx s' => ∀ σ' F' H' own', Sub F F' → Inb G σ' F' H' own' → RS w cx s' F' σ' H' own' → Dn.nx σ' H'
  | .ok .bk s' => ∀ σ' F' H' own', Sub F F' → Inb G σ' F' H' own' → RS w cx s' F' σ' H' own' → Dn.bk σ' H'
  | .ok .ct s' => ∀ σ' F' H' own', Sub F F' → Inb G σ' F' H' own' → RS w cx s' F' σ' H' own' → Dn.ct σ' H'
  | .ok (.ret d fr) s' => ∀ σ' F' H' own' v, Sub F F' → Inb G σ' F' H' own' → RS w cx s' F' σ' H' own' → RVal w G F' H' own' v d fr → Dn.rt v H'
  | .ex c x s' => ∀ σ' F' H' own' dd, Sub F F' → Inb G σ' F' H' own' → RS w cx s' F' σ' H' own' → ExD w F' c x dd → W (.ref (w.ca c)) dd σ' H'
  | .bad => False
end
section
variable {w : Wo} {cx : Cxs} {W : WX} {G : Gs} {F F1 H H1 : Hp} {σ : L2.St} {own own1 : Nat → List Addr} {Dn : Ends} {s : Sg} {nz : Bool} {α : Type}
theorem PostS.grow {r : R Fl} (h : PostS w cx W G F r Dn) (sf : Sub F F1) : PostS w cx W G F1 r Dn := by
  cases r with
  | bad => exact h
  | ex c x s => exact fun σ' F' H' own' dd s' i rs e => h σ' F' H' own' dd (sf.trans s') i rs e
  | ok f s =>
    cases f with
    | nx => exact fun σ' F' H' own' s' i rs => h σ' F' H' own' (sf.trans s') i rs
    | bk => exact fun σ' F' H' own' s' i rs => h σ' F' H' own' (sf.trans s') i rs
    | ct => exact fun σ' F' H' own' s' i rs => h σ' F' H' own' (sf.trans s') i rs
    | ret d fr => exact fun σ' F' H' own' v s' i rs e => h σ' F' H' own' v (sf.trans s') i rs e
theorem Inb.step (i : Inb G σ F H own) (f : Frm nz F H own F1 H1 own1) : Inb G σ F1 H1 own1 := ⟨(i.fr.trans f).weak fun z => (Bool.false_ne_true z).elim, i.v0⟩
theorem PostS.bnd {r : R α} {f : α → Sg → R Fl} {K1 : α → Sg → Hp → Hp → (Nat → List Addr) → Prop} (h : PostS w cx W G F (r.bind f) Dn) (i : Inb G σ F H own)
    (k : ∀ a s1 F1 H1 own1, Frm nz F H own F1 H1 own1 → RS w cx s1 F1 σ H1 own1 → PostS w cx W G F1 (f a s1) Dn → K1 a s1 F1 H1 own1) : Post w cx W nz σ F H own r K1 := by
  cases r with
  | bad => exact h
  | ex c x s => exact fun F' H' own' dd f rs e => h σ F' H' own' dd f.ff (i.step f) rs e
  | ok a s1 => exact fun F1 H1 own1 f1 rs => k a s1 F1 H1 own1 f1 rs (PostS.grow (r := f a s1) h f1.ff)
theorem PostS.seq {r : R Fl} {k : Sg → R Fl} (h : PostS w cx W G F (seqF r k) Dn) (Nx : L2.St → Hp → Prop)
    (hk : ∀ s1 σ1 F1 H1 own1, Sub F F1 → Inb G σ1 F1 H1 own1 → RS w cx s1 F1 σ1 H1 own1 → PostS w cx W G F1 (k s1) Dn → Nx σ1 H1) : PostS w cx W G F r { Dn with nx := Nx } := by
  cases r with
  | bad => exact h
  | ex c x s => exact h
  | ok f s =>
    cases f with
    | nx => exact fun σ' F' H' own' s' i rs => hk s σ' F' H' own' s' i rs (PostS.grow (r := k s) h s')
    | bk => exact h
    | ct => exact h
    | ret d fr => exact h
end
def tS (E : En) (cx : Cxs) (W : WX) (G : Gs) (il : Sm) : TS := fun Dn σ H => ∃ s F own, RS E.w cx s F σ H own ∧ Inb G σ F H own ∧ PostS E.w cx W G F (evM E.gl E.call il s) Dn
def tSs (E : En) (cx : Cxs) (W : WX) (G : Gs) (il : Sms) : TS := fun Dn σ H => ∃ s F own, RS E.w cx s F σ H own ∧ Inb G σ F H own ∧ PostS E.w cx W G F (evMs E.gl E.call il s) Dn
section
variable {E : En} {cx : Cxs} {W : WX} {G : Gs} {σ : L2.St} {H : Hp} {Dn : Ends}
theorem nil_ok (h : tSs E cx W G .nil Dn σ H) : tNext Dn σ H := by
  obtain ⟨s, F, own, rs, i, p⟩ := h
  exact p σ F H own (.refl _) i rs
theorem cons_ok {a : Sm} {r : Sms} (h : tSs E cx W G (.cons a r) Dn σ H) : tSeq (tS E cx W G a) (tSs E cx W G r) Dn σ H := by
  obtain ⟨s, F, own, rs, i, p⟩ := h
  exact ⟨s, F, own, rs, i, PostS.seq (k := evMs E.gl E.call r) p _ fun s1 σ1 F1 H1 own1 sf i1 rs1 p1 => ⟨s1, F1, own1, rs1, i1, p1⟩⟩
theorem pass_ok (h : tS E cx W G .pass Dn σ H) : tNext Dn σ H := by
  obtain ⟨s, F, own, rs, i, p⟩ := h
  exact p σ F H own (.refl _) i rs
theorem cont_ok (h : tS E cx W G .cont Dn σ H) : tCont Dn σ H := by
  obtain ⟨s, F, own, rs, i, p⟩ := h
  exact p σ F H own (.refl _) i rs
theorem brk_ok (h : tS E cx W G .brk Dn σ H) : tBreak Dn σ H := by
  obtain ⟨s, F, own, rs, i, p⟩ := h
  exact p σ F H own (.refl _) i rs
theorem retN_ok (h : tS E cx W G .retN Dn σ H) : tRetN Dn σ H := by
  obtain ⟨s, F, own, rs, i, p⟩ := h
  exact p σ F H own .non (.refl _) i rs (.inl ⟨rfl, .non⟩)
theorem iff_ok {c : Ex} {a b : Sms} (h : tS E cx W G (.iff c a b) Dn σ H) : tIfS (tT E cx W c) (tSs E cx W G a) (tSs E cx W G b) Dn σ H := by
  obtain ⟨s, F, own, rs, i, p⟩ := h
  have p' : PostS E.w cx W G F ((evT E.gl E.call c s).bind fun k s => if k then evMs E.gl E.call a s else evMs E.gl E.call b s) Dn := p
  refine ⟨s, F, own, rs, p'.bnd i fun k s1 F1 H1 own1 f1 rs1 p1 => ?_⟩
  cases k with
  | true => exact ⟨s1, F1, own1, rs1, i.step f1, p1⟩
  | false => exact ⟨s1, F1, own1, rs1, i.step f1, p1⟩
theorem ex_ok {e : Ex} (h : tS E cx W G (.ex e) Dn σ H) : tDrop (tE E cx W e) Dn σ H := by
  obtain ⟨s, F, own, rs, i, p⟩ := h
  have p' : PostS E.w cx W G F ((evE E.gl E.call e s).bind fun _ s => .ok .nx s) Dn := p
  exact ⟨s, F, own, rs, p'.bnd i fun k s1 F1 H1 own1 f1 rs1 p1 v hv => p1 σ F1 H1 own1 (.refl _) (i.step f1) rs1⟩
theorem Inb.noRet (i : Inb G σ F H own) {v : V} {d : D} {fr : Bool} {H9 : Hp} (h : Val E.w H9 F H own v d fr) (dm : ∀ a, H9 a = none → G.H0 a = none) : RVal E.w G F H own v d fr := by
  rcases h with h | ⟨e, a, vs, xs, h1, h2, h3, h4, h5, h6, h7, h8⟩
  · exact .inl h
  · refine .inr ⟨e, a, vs, xs, h1, h2, dm a h3, h4, h5, h6, h7, own0_out fun hj => ?_⟩
    split at hj
    · exact h8 0 hj
    · cases hj
/-- return e -/
theorem ret_ok {e : Ex} (hp : ∀ i, e ≠ .loc i) (h : tS E cx W G (.ret e) Dn σ H) : tRet (tE E cx W e) Dn σ H := by
  obtain ⟨s, F, own, rs, i, p⟩ := h
  have p' : PostS E.w cx W G F ((evE E.gl E.call e s).bind fun x s => .ok (.ret x.1 x.2) s) Dn := by
    have : evM E.gl E.call (.ret e) s = (evE E.gl E.call e s).bind fun x s => .ok (.ret x.1 x.2) s := by
      cases e <;> first | rfl | exact absurd rfl (hp _)
    rw [this] at p; exact p
  refine ⟨s, F, own, rs, p'.bnd i fun k s1 F1 H1 own1 f1 rs1 p1 v hv => ?_⟩
  exact p1 σ F1 H1 own1 v (.refl _) (i.step f1) rs1 ((i.step f1).noRet hv fun a z => i.fr.dm a z)
theorem retL_ok {j : Nat} (hj : j = 0 → G.v0 = none ∧ G.ow = []) (h : tS E cx W G (.ret (.loc j)) Dn σ H) : tRet (tVar j) Dn σ H := by
  obtain ⟨s, F, own, rs, i, p⟩ := h
  have p' : PostS E.w cx W G F (match s[j]? with
    | some (.sh d) => .ok (.ret d false) s
    | some (.ow false xs) => .ok (.ret (.lst xs) true) s
    | _ => .bad) Dn := p
  split at p'
  · rename_i d e
    obtain ⟨o, e1, r⟩ := rs.sl j _ e
    generalize own j = A at r
    cases r with
    | sh h => exact ⟨_, e1, p' σ F H own _ (.refl _) i rs (.inl ⟨rfl, h⟩)⟩
  · rename_i xs e
    obtain ⟨o, e1, r⟩ := rs.sl j _ e
    generalize hA : own j = A at r
    cases r with
    | @ow _ _ a vs hh n r hl =>
      have ha : a ∈ own j := by rw [hA]; exact List.mem_cons_self
      have hn0 : G.H0 a = none := by
        rcases i.fr.oo j a ha with z | z
        · unfold own0 at z
          split at z
          · rename_i h0
            rw [(hj h0).2] at z; cases z
          · cases z
        · exact z
      refine ⟨_, e1, p' σ F H own _ (.refl _) i rs (.inr ⟨rfl, a, vs, xs, rfl, rfl, hn0, hh, n, r, hl, own0_out fun hk => ?_⟩)⟩
      split at hk
      · rename_i hs
        by_cases hj0 : j = 0
        · rw [(hj hj0).1] at hs; simp at hs
        · exact rs.dj j 0 a hj0 ha hk
      · cases hk
  · exact p'.elim
/-- name = e -/
theorem set_ok {j : Nat} {e : Ex} (hj : G.v0.isSome = true → j ≠ 0) (h : tS E cx W G (.set j e) Dn σ H) : tAsg (tE E cx W e) (gName j) Dn σ H := by
  obtain ⟨s, F, own, rs, i, p⟩ := h
  have p' : PostS E.w cx W G F ((evE E.gl E.call e s).bind fun x s => ofS (setS s j (mkS x.1 x.2))) Dn := p
  refine ⟨s, F, own, rs, p'.bnd i fun x s1 F1 H1 own1 f1 rs1 p1 v hv => ?_⟩
  have i1 := i.step f1
  have hv0 : ∀ u, G.v0 = some u → (σ.set j (some v))[0]? = some (some u) := fun u e => by
    rw [List.getElem?_set_ne (hj (by rw [e]; rfl))]
    exact i.v0 u e
  cases q : setS s1 j (mkS x.1 x.2) with
  | none => rw [q] at p1; exact p1.elim
  | some s2 =>
    rw [q] at p1
    rcases hv with ⟨e1, hr⟩ | ⟨e1, a, vs, xs, rfl, e2, h3, h4, h5, h6, h7, h8⟩
    · rw [e1] at q
      have q' : setS s1 j (.sh x.1) = some s2 := by
        have : mkS x.1 false = .sh x.1 := by unfold mkS; split <;> simp_all
        rw [this] at q; exact q
      obtain ⟨own2, rs2, sub⟩ := rs1.store q' hr
      exact p1 _ F1 H1 own2 (.refl _) ⟨⟨i1.fr.ff, fun a o ho hno => i1.fr.hh a o ho hno, i1.fr.hn, fun k a ha => i1.fr.oo k a (sub k a ha), fun z => (Bool.false_ne_true z).elim, i1.fr.dm⟩, hv0⟩ rs2
    · rw [e1, e2] at q
      obtain ⟨own2, rs2, sub⟩ := rs1.storeN q h4 h5 h6 h7 h8
      refine p1 _ F1 H1 own2 (.refl _) ⟨⟨i1.fr.ff, fun a o ho hno => i1.fr.hh a o ho hno, i1.fr.hn, fun k b hb => ?_, fun z => (Bool.false_ne_true z).elim, i1.fr.dm⟩, hv0⟩ rs2
      rcases sub k b hb with z | ⟨_, rfl⟩
      · exact i1.fr.oo k b z
      · exact .inr (i.fr.dm b h3)
theorem Inb.less (i : Inb G σ F H own) {σ' : L2.St} {own' : Nat → List Addr} (sub : ∀ j a, a ∈ own' j → a ∈ own j) (h0 : ∀ v, G.v0 = some v → σ'[0]? = σ[0]?) : Inb G σ' F H own' :=
  ⟨⟨i.fr.ff, fun a o ho hno => i.fr.hh a o ho hno, i.fr.hn, fun k a ha => i.fr.oo k a (sub k a ha), fun z => (Bool.false_ne_true z).elim, i.fr.dm⟩, fun v e => (h0 v e).trans (i.v0 v e)⟩
/-- target = e -/
theorem unp_ok {t : Tg} {e : Ex} (hio : ∀ v, G.v0 = some v → t.has 0 = false) (h : tS E cx W G (.unp t e) Dn σ H) : tAsg (tE E cx W e) (tG E cx t) Dn σ H := by
  obtain ⟨s, F, own, rs, i, p⟩ := h
  have p' : PostS E.w cx W G F ((evE E.gl E.call e s).bind fun x s => ofS (asg t x.1 s)) Dn := p
  refine ⟨s, F, own, rs, p'.bnd i fun x s1 F1 H1 own1 f1 rs1 p1 v hv => ?_⟩
  obtain ⟨F2, sf, f2, rs2, hr⟩ := hv.frz f1 rs1
  have i2 := i.step f2
  have p2 := p1.grow sf
  cases q : asg t x.1 s1 with
  | none => rw [q] at p2; exact p2.elim
  | some s2 =>
    rw [q] at p2
    exact ⟨s1, F2, own1, x.1, s2, rs2, hr, q, fun σ' own' rs' sub z => p2 σ' F2 H1 own' (.refl _) (i2.less sub fun v e => z.2 0 (hio v e)) rs'⟩
/-- a, b = x, y -/
theorem par_ok {j k : Nat} {a b : Ex} (hj : G.v0.isSome = true → j ≠ 0) (hk : G.v0.isSome = true → k ≠ 0) (h : tS E cx W G (.par j k a b) Dn σ H) : tPar j k (tCons (tE E cx W a) (tCons (tE E cx W b) tNil)) Dn σ H := by
  obtain ⟨s, F, own, rs, i, p⟩ := h
  have p' : PostS E.w cx W G F ((evE E.gl E.call a s).bind fun x s => (evE E.gl E.call b s).bind fun y s => ofS ((setS s j (.sh x.1)).bind fun s => setS s k (.sh y.1))) Dn := p
  refine ⟨s, F, own, rs, p'.bnd i fun x s1 F1 H1 own1 f1 rs1 p1 v hv => ?_⟩
  obtain ⟨F2, sf, f2, rs2, hr⟩ := hv.frz f1 rs1
  refine ⟨s1, F2, own1, rs2, (p1.grow sf).bnd (i.step f2) fun y s3 F3 H3 own3 f3 rs3 p3 u hu => ?_⟩
  obtain ⟨F4, sf4, f4, rs4, hr4⟩ := hu.frz f3 rs3
  have p4 := p3.grow sf4
  have i4 := (i.step f2).step f4
  refine ⟨v, u, rfl, ?_⟩
  cases q : setS s3 j (.sh x.1) with
  | none => rw [q] at p4; exact p4.elim
  | some s5 =>
    rw [q] at p4
    cases q2 : setS s5 k (.sh y.1) with
    | none => simp only [Option.bind_some] at p4; rw [q2] at p4; exact p4.elim
    | some s6 =>
      simp only [Option.bind_some] at p4
      rw [q2] at p4
      obtain ⟨own5, rs5, sub5⟩ := rs4.store q (hr.mono f4.ff)
      obtain ⟨own6, rs6, sub6⟩ := rs5.store q2 hr4
      refine p4 _ F4 H3 own6 (.refl _) (i4.less (fun n b hb => sub5 n b (sub6 n b hb)) fun v e => ?_) rs6
      rw [List.getElem?_set_ne (hk (by rw [e]; rfl)), List.getElem?_set_ne (hj (by rw [e]; rfl))]
/-- the own list of a slot is changed -/
theorem RS.chg {w : Wo} {cx : Cxs} {s : Sg} {F H : Hp} {own : Nat → List Addr} (rs : RS w cx s F σ H own) (i : Inb G σ F H own) {j : Nat} {p : Bool} {xs xs' : List D} {a : Addr} {vs vs' : List V} (e : s[j]? = some (.ow p xs)) (hA : own j = [a]) (hh : H a = some (.lst vs)) (n : F a = none)
    (r : Reps w F vs' xs') (hl : vs'.length ≤ limN) : RS w cx (s.set j (.ow p xs')) F σ (upd H a (.lst vs')) own ∧ Inb G σ F (upd H a (.lst vs')) own := by
  have ha : a ∈ own j := by rw [hA]; exact List.mem_cons_self
  have hj : j < s.length := (List.getElem?_eq_some_iff.mp e).1
  have hne : ∀ l c, l ≠ j → c ∈ own l → c ≠ a := fun l c hl hc z => rs.dj l j c hl hc (by rw [z]; exact ha)
  obtain ⟨o1, e1, r1⟩ := rs.sl j _ e
  have e1' : σ[j]? = some (some (.ref a)) := by
    rw [hA] at r1
    cases r1; exact e1
  refine ⟨⟨by rw [List.length_set]; exact rs.len, fun c oc hc => ?_, fun l y el => ?_, fun l hl => rs.out l (by rw [List.length_set] at hl; exact hl), rs.nd, rs.dj⟩, ⟨⟨i.fr.ff, fun c oc hoc hno => ?_, fun z => (Bool.false_ne_true z).elim, i.fr.oo, i.fr.on, fun c hc => ?_⟩, i.v0⟩⟩
  · have : c ≠ a := fun z => by rw [z, n] at hc; cases hc
    rw [upd_ne this]; exact rs.fh c oc hc
  · by_cases hlj : l = j
    · subst hlj
      rw [List.getElem?_set_self hj] at el
      cases el
      refine ⟨_, e1', ?_⟩
      rw [hA]
      exact .ow upd_same n r hl
    · rw [List.getElem?_set_ne (Ne.symm hlj)] at el
      obtain ⟨o2, e3, r3⟩ := rs.sl l y el
      exact ⟨o2, e3, r3.step (.refl _) fun c hc oc q => ⟨by rw [upd_ne (hne l c hlj hc)]; exact q, (r3.owned c hc).2⟩⟩
  · obtain ⟨h1, h2⟩ := i.fr.hh c oc hoc hno
    have : c ≠ a := fun z => by
      subst z
      rcases i.fr.oo j c ha with q | q
      · exact hno j q
      · rw [hoc] at q; cases q
    exact ⟨by rw [upd_ne this]; exact h1, h2⟩
  · have : c ≠ a := fun z => by rw [z, upd_same] at hc; cases hc
    rw [upd_ne this] at hc
    exact i.fr.dm c hc
/-- name[k] = v -/
theorem put_ok {j : Nat} {k v : Ex} (h : tS E cx W G (.put j k v) Dn σ H) : tAsg (tE E cx W v) (gSub (tVar j) (tRd E cx W k) rSetL) Dn σ H := by
  obtain ⟨s, F, own, rs, i, p⟩ := h
  have p' : PostS E.w cx W G F ((evE E.gl E.call v s).bind fun v s => (hasS s j).bind fun _ s => (rd k (evE E.gl E.call k) s).bind fun k s => ofS (putS s j k v.1)) Dn := p
  refine ⟨s, F, own, rs, p'.bnd i fun x s1 F1 H1 own1 f1 rs1 p1 u hu => ?_⟩
  obtain ⟨F2, sf, f2, rs2, hr⟩ := hu.frz f1 rs1
  have i2 := i.step f2
  obtain ⟨o, e1, p2⟩ : ∃ o, σ[j]? = some (some o) ∧ PostS E.w cx W G F2 ((rd k (evE E.gl E.call k) s1).bind fun k s => ofS (putS s j k x.1)) Dn := by
    have p2 := p1.grow sf
    unfold hasS at p2
    split at p2
    · rename_i e
      obtain ⟨o, e1, r⟩ := rs2.sl j _ e
      generalize own1 j = A at r
      cases r with
      | ow h n r hl => exact ⟨_, e1, p2⟩
    · rename_i e
      obtain ⟨o, e1, r⟩ := rs2.sl j _ e
      generalize own1 j = A at r
      cases r with
      | ob h n r _ _ => exact ⟨_, e1, p2⟩
    · exact p2.elim
  refine ⟨o, e1, s1, F2, own1, rs2, p2.bnd i2 fun y s3 F3 H3 own3 f3 rs3 p3 z hz => ?_⟩
  have i3 := i2.step f3
  unfold putS at p3
  split at p3
  · rename_i p xs k e
    obtain ⟨o', e2, r⟩ := rs3.sl j _ e
    rw [e1] at e2
    cases e2
    cases q : ixN xs.length k with
    | none => rw [q] at p3; exact p3.elim
    | some m =>
      rw [q] at p3
      generalize hA : own3 j = A at r
      cases r with
      | @ow _ _ a vs hh n r hl =>
        obtain ⟨rs4, i4⟩ := rs3.chg i3 e hA hh n (vs' := vs.set m u) (xs' := xs.set m x.1) (r.set m (hr.mono f3.ff)) (by rw [List.length_set]; exact hl)
        exact ⟨a, vs, k, m, rfl, hz.int, hh, by rw [r.length]; exact q, p3 σ F3 _ own3 (.refl _) i4 rs4⟩
  · exact p3.elim
/-- name op= e -/
def augO : Operator → Option Bop
  | .Add => some .add | .Sub => some .sub | _ => none
def rAug (w : Wo) (o : Bop) : R2 := fun x y H Q => ∃ F dx dy r, Sub F H ∧ Bor w F H x dx ∧ Bor w F H y dy ∧ augD o dx dy = some r ∧ Aft w F H r false Q
theorem aug_op {X : Cx} {w : Wo} {op : Operator} {o : Bop} (ho : augO op = some o) : OpR X (inplaceOp op) (rAug w o) := by
  intro pins s σ H x y v u Q I rx ry ⟨F, dx, dy, r, sF, bx, dby, e, q⟩
  unfold augD at e
  split at e
  · cases e
    cases op <;> simp [augO] at ho
    exact iop_add pins s σ H x y v u Q I rx ry ⟨_, _, bx.int, dby.int, q.data sF (.int _)⟩
  · cases e
    cases op <;> simp [augO] at ho
    exact iop_sub pins s σ H x y v u Q I rx ry ⟨_, _, bx.int, dby.int, q.data sF (.int _)⟩
  · cases e
theorem aug_ok {j : Nat} {o : Bop} {e : Ex} (hj : G.v0.isSome = true → j ≠ 0) (h : tS E cx W G (.aug j o e) Dn σ H) : tAug j (tRd E cx W e) (rAug E.w o) Dn σ H := by
  obtain ⟨s, F, own, rs, i, p⟩ := h
  have p' : PostS E.w cx W G F ((readS s j).bind fun _ s => (rd e (evE E.gl E.call e) s).bind fun y s => (readS s j).bind fun x s => (R.of (augD o x y) s).bind fun z s => ofS (setS s j (.sh z))) Dn := p
  cases q : readS s j with
  | bad => rw [q] at p'; exact p'.elim
  | ex c x s' => unfold readS at q; split at q <;> cases q
  | ok r s' =>
    rw [q] at p'
    obtain ⟨rfl, v, e1, _⟩ := rs.slot q
    refine ⟨v, e1, s', F, own, rs, PostS.bnd (r := rd e (evE E.gl E.call e) s') (f := fun y s => (readS s j).bind fun x s => (R.of (augD o x y) s).bind fun z s => ofS (setS s j (.sh z))) p' i fun y s2 F2 H2 own2 f2 rs2 p2 u hu => ?_⟩
    have i2 := i.step f2
    cases q2 : readS s2 j with
    | bad => rw [q2] at p2; exact p2.elim
    | ex c x s' => unfold readS at q2; split at q2 <;> cases q2
    | ok x s3 =>
      rw [q2] at p2
      obtain ⟨rfl, v', e2, bx⟩ := rs2.slot q2
      rw [e1] at e2
      cases e2
      cases q3 : augD o x y with
      | none => simp only [R.bind_ok] at p2; rw [q3] at p2; exact p2.elim
      | some z =>
        simp only [R.bind_ok] at p2
        rw [q3] at p2
        refine ⟨F2, x, y, z, rs2.fh, bx, hu, q3, fun F' H' vv ps nv => ?_⟩
        have rs5 := rs2.pst ps
        have i5 := i2.step (nz := true) (Frm.pst ps)
        have p5 := p2.grow ps.ff
        cases q4 : setS s3 j (.sh z) with
        | none => simp only [R.of_some, R.bind_ok] at p5; rw [q4] at p5; exact p5.elim
        | some s6 =>
          simp only [R.of_some, R.bind_ok] at p5
          rw [q4] at p5
          have hv : Rep E.w F' vv z := by
            rcases nv with ⟨_, h⟩ | ⟨h, _⟩
            · exact h
            · cases h
          obtain ⟨own6, rs6, sub6⟩ := rs5.store q4 hv
          exact p5 _ F' H' own6 (.refl _) (i5.less sub6 fun v e => List.getElem?_set_ne (hj (by rw [e]; rfl))) rs6
/-- is there a list in the slot? -/
theorem hasL_ok {s : Sg} {F : Hp} {own : Nat → List Addr} {j : Nat} {k : Unit → Sg → R Fl} (rs : RS E.w cx s F σ H own) (p : PostS E.w cx W G F ((hasL s j).bind k) Dn) : ∃ a vs, σ[j]? = some (some (.ref a)) ∧ H a = some (.lst vs) ∧ PostS E.w cx W G F (k () s) Dn := by
  unfold hasL at p
  split at p
  · rename_i e
    obtain ⟨o, e1, r⟩ := rs.sl j _ e
    generalize own j = A at r
    cases r with
    | ow h n r hl => exact ⟨_, _, e1, h, p⟩
  · exact p.elim
/-- the list in the slot grows -/
theorem appS_ok {s : Sg} {F : Hp} {own : Nat → List Addr} {j : Nat} {a : Addr} {ds : List D} {us : List V} (rs : RS E.w cx s F σ H own) (i : Inb G σ F H own) (e1 : σ[j]? = some (some (.ref a))) (r : Reps E.w F us ds) (p : PostS E.w cx W G F (ofS (appS s j ds)) Dn) :
    ∃ vs, H a = some (.lst vs) ∧ vs.length + us.length ≤ limN ∧ Dn.nx σ (upd H a (.lst (vs ++ us))) := by
  unfold appS at p
  split at p
  · rename_i q xs e
    split at p
    · rename_i hl
      obtain ⟨o, e2, r2⟩ := rs.sl j _ e
      rw [e1] at e2
      cases e2
      generalize hA : own j = A at r2
      cases r2 with
      | @ow _ _ _ vs hh n r2 hl2 =>
        have hlen : vs.length + us.length ≤ limN := by rw [r2.length, r.length]; exact hl
        obtain ⟨rs4, i4⟩ := rs.chg i e hA hh n (vs' := vs ++ us) (xs' := xs ++ ds) (r2.append r) (by rw [List.length_append]; exact hlen)
        exact ⟨vs, hh, hlen, p σ F _ own (.refl _) i4 rs4⟩
    · exact p.elim
  · exact p.elim
theorem app_ok {X : Cx} {j : Nat} {e : Ex} (h : tS E cx W G (.app j e) Dn σ H) : tDrop (tBM X.K "list" rAppend (tVar j) (tCons (tE E cx W e) tNil)) Dn σ H := by
  obtain ⟨s, F, own, rs, i, p⟩ := h
  have p' : PostS E.w cx W G F ((hasL s j).bind fun _ s => (evE E.gl E.call e s).bind fun x s => ofS (appS s j [x.1])) Dn := p
  obtain ⟨a, vs, e1, hh, p2⟩ := hasL_ok rs p'
  refine ⟨_, e1, .inl ⟨rfl, vs, .inl (.inl hh)⟩, s, F, own, rs, p2.bnd i fun x s1 F1 H1 own1 f1 rs1 p3 v hv => ?_⟩
  obtain ⟨F2, sf, f2, rs2, hr⟩ := hv.frz f1 rs1
  obtain ⟨vs2, h2, hl, q⟩ := appS_ok rs2 (i.step f2) e1 (.cons hr .nil) (p3.grow sf)
  exact ⟨a, vs2, v, rfl, rfl, h2, Nat.lt_of_lt_of_le (Nat.lt_of_succ_le hl) limN_le, q⟩
theorem ext_ok {X : Cx} {j : Nat} {e : Ex} (h : tS E cx W G (.ext j e) Dn σ H) : tDrop (tBM X.K "list" rExtend (tVar j) (tCons (tE E cx W e) tNil)) Dn σ H := by
  obtain ⟨s, F, own, rs, i, p⟩ := h
  have p' : PostS E.w cx W G F ((hasL s j).bind fun _ s => (evE E.gl E.call e s).bind fun x s => (R.of (lstD x) s).bind fun xs s => ofS (appS s j xs)) Dn := p
  obtain ⟨a, vs, e1, hh, p2⟩ := hasL_ok rs p'
  refine ⟨_, e1, .inl ⟨rfl, vs, .inl (.inl hh)⟩, s, F, own, rs, p2.bnd i fun x s1 F1 H1 own1 f1 rs1 p3 v hv => ?_⟩
  obtain ⟨d, fr⟩ := x
  rcases hv with ⟨hf, _⟩ | ⟨hf, b, us, xs, rfl, hd, h3, h4, h5, h6, h7, h8⟩
  · simp only at hf
    subst hf
    have : lstD (d, false) = none := by cases d <;> rfl
    rw [this] at p3
    exact p3.elim
  · simp only at hf hd
    subst hf hd
    obtain ⟨vs2, h2, hl, q⟩ := appS_ok rs1 (i.step f1) e1 h6 p3
    exact ⟨a, b, vs2, us, rfl, rfl, h2, h4, Nat.le_trans hl limN_le, q⟩
/-- xs.insert(i, y) -/
def rInsert : V → List V → Hp → VK → Prop := fun x vs H Q => ∃ (l : Addr) (xs : List V) (i : Int) (y : V), x = .ref l ∧ vs = [.int i, y] ∧ H l = some (.lst xs) ∧ xs.length < sizeLine ∧ 0 ≤ i ∧ i < 2 ^ 63 ∧
    Q .non (upd H l (.lst (xs.take i.toNat ++ [y] ++ xs.drop i.toNat)))
theorem insS_ok {s : Sg} {F : Hp} {own : Nat → List Addr} {j : Nat} {a : Addr} {k d : D} {u : V} (rs : RS E.w cx s F σ H own) (i : Inb G σ F H own) (e1 : σ[j]? = some (some (.ref a))) (r : Rep E.w F u d) (p : PostS E.w cx W G F (ofS (insS s j k d)) Dn) :
    ∃ n vs, k = .int n ∧ 0 ≤ n ∧ n < 2 ^ 63 ∧ H a = some (.lst vs) ∧ vs.length < limN ∧ Dn.nx σ (upd H a (.lst (vs.take n.toNat ++ [u] ++ vs.drop n.toNat))) := by
  unfold insS at p
  split at p
  · rename_i q xs n e
    split at p
    · rename_i hl
      obtain ⟨o, e2, r2⟩ := rs.sl j _ e
      rw [e1] at e2
      cases e2
      generalize hA : own j = A at r2
      cases r2 with
      | @ow _ _ _ vs hh n2 r2 hl2 =>
        have hlen : vs.length < limN := by rw [r2.length]; exact hl.2.2
        have e3 : (vs.take n.toNat ++ [u] ++ vs.drop n.toNat).length ≤ limN := by
          rw [List.length_append, List.length_append, List.length_take, List.length_drop, List.length_singleton]; omega
        obtain ⟨rs4, i4⟩ := rs.chg i e hA hh n2 (vs' := vs.take n.toNat ++ [u] ++ vs.drop n.toNat) (xs' := xs.take n.toNat ++ [d] ++ xs.drop n.toNat) (((r2.take _).append (.cons r .nil)).append (r2.drop _)) e3
        exact ⟨n, vs, rfl, hl.1, hl.2.1, hh, hlen, p σ F _ own (.refl _) i4 rs4⟩
    · exact p.elim
  · exact p.elim
theorem ins_ok {X : Cx} {j : Nat} {k e : Ex} (h : tS E cx W G (.ins j k e) Dn σ H) : tDrop (tBM X.K "list" rInsert (tVar j) (tCons (tE E cx W k) (tCons (tE E cx W e) tNil))) Dn σ H := by
  obtain ⟨s, F, own, rs, i, p⟩ := h
  have p' : PostS E.w cx W G F ((hasL s j).bind fun _ s => (evE E.gl E.call k s).bind fun y s => (evE E.gl E.call e s).bind fun x s => ofS (insS s j y.1 x.1)) Dn := p
  obtain ⟨a, vs, e1, hh, p2⟩ := hasL_ok rs p'
  refine ⟨_, e1, .inl ⟨rfl, vs, .inl (.inl hh)⟩, s, F, own, rs, p2.bnd i fun y s1 F1 H1 own1 f1 rs1 p3 u hu => ?_⟩
  obtain ⟨F2, sf, f2, rs2, hr⟩ := hu.frz f1 rs1
  refine ⟨s1, F2, own1, rs2, (p3.grow sf).bnd (i.step f2) fun x s3 F3 H3 own3 f3 rs3 p4 v hv => ?_⟩
  obtain ⟨F4, sf4, f4, rs4, hr4⟩ := hv.frz f3 rs3
  obtain ⟨n, vs2, en, n0, n1, h2, hl, q⟩ := insS_ok rs4 ((i.step f2).step f4) e1 hr4 (p4.grow sf4)
  rw [en] at hr
  cases hr
  exact ⟨a, vs2, n, v, rfl, rfl, h2, Nat.lt_of_lt_of_le hl limN_le, n0, n1, q⟩
/-- the object in a slot is changed -/
theorem RS.chgO {w : Wo} {cx : Cxs} {s : Sg} {F H H' : Hp} {own : Nat → List Addr} (rs : RS w cx s F σ H own) (i : Inb G σ F H own) {j : Nat} {p : Bool} {c : Str} {fs fs' : List (Str × Fld)} {a dx : Addr} {vs' : List (Str × V)} {A A' : List Addr} (e : s[j]? = some (.ob p c fs)) (eσ : σ[j]? = some (some (.ref a)))
    (hA : own j = a :: A) (n : F a = none) (hc : c ∈ w.cl) (hn : ∀ y ∈ fs', y.1 ∈ clsF c) (hH : ∀ b, b ≠ a → b ∉ A → H' b = H b) (fh : Sub F H') (dm : ∀ b, H' b = none → H b = none) (ha : H' a = some (.ins (w.ca c) dx vs')) (r : FldsR w F H' fs' vs' A') (nd : (a :: A').Nodup)
    (sub : ∀ b ∈ A', b ∈ A ∨ (G.H0 b = none ∧ ∀ l, b ∉ own l)) : RS w cx (s.set j (.ob p c fs')) F σ H' (ownSet own j (a :: A')) ∧ Inb G σ F H' (ownSet own j (a :: A')) := by
  have hj : j < s.length := (List.getElem?_eq_some_iff.mp e).1
  have haj : a ∈ own j := by rw [hA]; exact List.mem_cons_self
  have hAj : ∀ b ∈ A, b ∈ own j := fun b hb => by rw [hA]; exact List.mem_cons_of_mem _ hb
  have hso : ∀ b ∈ a :: A', b ∈ own j ∨ (G.H0 b = none ∧ ∀ l, b ∉ own l) := fun b hb => by
    rcases List.mem_cons.mp hb with rfl | hb
    · exact .inl haj
    · exact (sub b hb).imp_left (hAj b)
  refine ⟨⟨by rw [List.length_set]; exact rs.len, fh, fun l y el => ?_, fun l hl => ?_, fun l => ?_, fun l k b hlk hb hd => ?_⟩, ⟨⟨i.fr.ff, fun b o hb hno => ?_, fun z => (Bool.false_ne_true z).elim, fun l b hb => ?_, fun z => (Bool.false_ne_true z).elim, fun b hb => i.fr.dm b (dm b hb)⟩, i.v0⟩⟩
  · by_cases hlj : l = j
    · subst hlj
      rw [List.getElem?_set_self hj] at el
      cases el
      exact ⟨_, eσ, by rw [ownSet_same]; exact .ob ha n r hc hn⟩
    · rw [List.getElem?_set_ne (Ne.symm hlj)] at el
      obtain ⟨o2, e3, r3⟩ := rs.sl l y el
      refine ⟨o2, e3, ?_⟩
      rw [ownSet_ne hlj]
      refine r3.step (.refl _) fun b hb o ho => ⟨?_, (r3.owned b hb).2⟩
      rw [hH b (fun z => rs.dj l j b hlj hb (z ▸ haj)) fun z => rs.dj l j b hlj hb (hAj b z)]; exact ho
  · rw [List.length_set] at hl
    rw [ownSet_ne (by omega)]; exact rs.out l hl
  · by_cases hlj : l = j
    · subst hlj; rw [ownSet_same]; exact nd
    · rw [ownSet_ne hlj]; exact rs.nd l
  · by_cases hlj : l = j
    · subst hlj
      rw [ownSet_same] at hb
      rw [ownSet_ne (Ne.symm hlk)] at hd
      rcases hso b hb with h | h
      · exact rs.dj l k b hlk h hd
      · exact h.2 k hd
    · rw [ownSet_ne hlj] at hb
      by_cases hkj : k = j
      · subst hkj
        rw [ownSet_same] at hd
        rcases hso b hd with h | h
        · exact rs.dj l k b hlk hb h
        · exact h.2 l hb
      · rw [ownSet_ne hkj] at hd
        exact rs.dj l k b hlk hb hd
  · obtain ⟨h1, h2⟩ := i.fr.hh b o hb hno
    have hx : b ∉ own j := fun z => by
      rcases i.fr.oo j b z with q | q
      · exact hno j q
      · rw [hb] at q; cases q
    refine ⟨?_, h2⟩
    rw [hH b (fun z => hx (z ▸ haj)) fun z => hx (hAj b z)]; exact h1
  · by_cases hlj : l = j
    · subst hlj
      rw [ownSet_same] at hb
      rcases hso b hb with h | h
      · exact i.fr.oo l b h
      · exact .inr h.1
    · rw [ownSet_ne hlj] at hb
      exact i.fr.oo l b hb
theorem mkF_sh (d : D) : mkF d false = .sh d := by unfold mkF; split <;> simp_all
/-- name.f = e -/
theorem setF_ok {K : PySem.W.Frag} (k : EnOk E) (hK : E.w.K = K) {j : Nat} {f : Str} {e : Ex} (h : tS E cx W G (.setF j f e) Dn σ H) : sFld K (tVar j) (tE E cx W e) f Dn σ H := by
  obtain ⟨s, F, own, rs, i, p⟩ := h
  have p' : PostS E.w cx W G F ((evE E.gl E.call e s).bind fun x s => ofS (setFS s j f (mkF x.1 x.2))) Dn := p
  refine ⟨s, F, own, rs, p'.bnd i fun x s1 F1 H1 own1 f1 rs1 p1 v hv => ?_⟩
  have i1 := i.step f1
  unfold setFS at p1
  split at p1
  · rename_i q c fs e1
    split at p1
    · rename_i hcond
      obtain ⟨hl, hf⟩ := hcond
      obtain ⟨o, eσ, r⟩ := rs1.sl j _ e1
      have hnd := rs1.nd j
      generalize hA : own1 j = A at r hnd
      cases r with
      | @ob _ _ _ a dx vs A hh n r hc hn =>
        obtain ⟨k1, k2⟩ := k.cl c hc
        rw [List.nodup_cons] at hnd
        have hn' : ∀ x, ∀ y ∈ fldP f x fs, y.1 ∈ clsF c := fun x y hy => by
          rcases fldP_names hy with z | ⟨z, hz, z2⟩
          · rw [z]; exact hf
          · rw [← z2]; exact hn z hz
        refine ⟨.ref a, eσ, a, _, dx, vs, rfl, hh, by rw [← hK]; exact k1, by rw [← hK]; exact k2 f hf, by rw [r.length]; omega, ?_⟩
        have hH : ∀ b, b ≠ a → b ∉ A → upd H1 a (.ins (E.w.ca c) dx (putF f v vs)) b = H1 b := fun b hb _ => upd_ne hb
        have fh : Sub F1 (upd H1 a (.ins (E.w.ca c) dx (putF f v vs))) := fun b o ho => by
          rw [upd_ne (fun z => by rw [z, n] at ho; cases ho)]; exact rs1.fh b o ho
        have dm : ∀ b, upd H1 a (.ins (E.w.ca c) dx (putF f v vs)) b = none → H1 b = none := fun b hb => by
          by_cases z : b = a
          · rw [z, upd_same] at hb; cases hb
          · rw [upd_ne z] at hb; exact hb
        have fresh : ∀ {fs' : List (Str × Fld)} {vs' : List (Str × V)} {A' : List Addr} {o : HO}, a ∉ A' → FldsR E.w F1 H1 fs' vs' A' → FldsR E.w F1 (upd H1 a o) fs' vs' A' := fun {fs' vs' A' o} ha r => r.step (.refl _) fun b hb o ho => ⟨by rw [upd_ne (show b ≠ a from fun z => ha (by rw [← z]; exact hb))]; exact ho, (r.owned b hb).2⟩
        rcases hv with ⟨ef, hr⟩ | ⟨ef, b, us, xs, rfl, ed, h3, h4, h5, h6, h7, h8⟩
        · rw [ef, mkF_sh] at p1
          obtain ⟨A', r', s1', nd'⟩ := r.putS (f := f) hnd.2 hr
          have haA : a ∉ A' := fun z => hnd.1 (s1' a z)
          obtain ⟨rs2, i2⟩ := rs1.chgO i1 (dx := dx) e1 eσ hA n hc (hn' _) hH fh dm upd_same (fresh haA r') (List.nodup_cons.mpr ⟨haA, nd'⟩) fun b hb => .inl (s1' b hb)
          exact p1 σ F1 _ _ (.refl _) i2 rs2
        · rw [ef, ed] at p1
          have hbA : b ∉ A := fun z => h8 j (by rw [hA]; exact List.mem_cons_of_mem _ z)
          have hba : b ≠ a := fun z => h8 j (by rw [hA, z]; exact List.mem_cons_self)
          obtain ⟨A', r', s1', nd'⟩ := r.putO (f := f) hnd.2 hbA h4 h5 h6 h7
          have haA : a ∉ A' := fun z => by
            rcases s1' a z with q | q
            · exact hba q.symm
            · exact hnd.1 q
          obtain ⟨rs2, i2⟩ := rs1.chgO i1 (dx := dx) e1 eσ hA n hc (hn' _) hH fh dm upd_same (fresh haA r') (List.nodup_cons.mpr ⟨haA, nd'⟩) fun x hx => by
            rcases s1' x hx with q | q
            · exact .inr ⟨by rw [q]; exact i.fr.dm b h3, fun l => by rw [q]; exact h8 l⟩
            · exact .inl q
          exact p1 σ F1 _ _ (.refl _) i2 rs2
    · exact p1.elim
  · exact p1.elim
/-- the list at a field: where it stands -/
theorem hasFL_ok {w : Wo} {s s' : Sg} {F : Hp} {own : Nat → List Addr} {j : Nat} {f : Str} {u : Unit} (rs : RS w cx s F σ H own) (q : hasFL s j f = .ok u s') : s' = s ∧ ∃ a dx c fs b us, σ[j]? = some (some (.ref a)) ∧ H a = some (.ins (w.ca c) dx fs) ∧ c ∈ w.cl ∧ f ∈ clsF c ∧ fs.lookup f = some (.ref b) ∧ H b = some (.lst us) := by
  unfold hasFL at q
  split at q
  · rename_i p c fs e
    split at q
    · rename_i xs e2
      cases q
      obtain ⟨o, eσ, r⟩ := rs.sl j _ e
      generalize own j = A at r
      cases r with
      | @ob _ _ _ a dx vs A hh n r hc hn =>
        obtain ⟨v, k1, _, k3⟩ := r.get e2
        obtain ⟨b, us, rfl, k4, _⟩ := k3 xs rfl
        obtain ⟨y, hy, e3⟩ := fldG_mem e2
        exact ⟨rfl, a, dx, c, vs, b, us, eσ, hh, hc, by rw [← e3]; exact hn y hy, k1, k4⟩
    · cases q
  · cases q
/-- .. changed -/
theorem RS.chgL {w : Wo} {s : Sg} {F : Hp} {own : Nat → List Addr} (rs : RS w cx s F σ H own) (i : Inb G σ F H own) {j : Nat} {p : Bool} {c f : Str} {fs : List (Str × Fld)} {xs xs' : List D} {b : Addr} {us' : List V} (e : s[j]? = some (.ob p c fs)) (e2 : fldG fs f = some (.ow xs)) {a dx : Addr} {vs : List (Str × V)} (eσ : σ[j]? = some (some (.ref a))) (hh : H a = some (.ins (w.ca c) dx vs)) (el : vs.lookup f = some (.ref b)) (hr : Reps w F us' xs') (hl : us'.length ≤ limN) :
    ∃ own', RS w cx (s.set j (.ob p c (fldP f (.ow xs') fs))) F σ (upd H b (.lst us')) own' ∧ Inb G σ F (upd H b (.lst us')) own' := by
  obtain ⟨o, e1, r⟩ := rs.sl j _ e
  have hnd := rs.nd j
  generalize hA : own j = A at r hnd
  cases r with
  | @ob _ _ _ a' dx' vs' A h' n r hc hn =>
    rw [eσ] at e1
    cases e1
    have := ins_inj hh h'
    subst this
    have ed : dx' = dx := by
      have q := hh.symm.trans h'
      simp only [Option.some.injEq, HO.ins.injEq] at q
      exact q.2.1.symm
    subst ed
    rw [List.nodup_cons] at hnd
    obtain ⟨r', hb⟩ := r.chg hnd.2 e2 el hr hl
    have hba : b ≠ a := fun z => hnd.1 (by rw [← z]; exact hb)
    have hbF := (r.owned b hb).2
    obtain ⟨rs2, i2⟩ := rs.chgO i (dx := dx') (fs' := fldP f (.ow xs') fs) (H' := upd H b (.lst us')) e eσ hA n hc (fun y hy => by
        rcases fldP_names hy with z | ⟨z, hz, z2⟩
        · obtain ⟨y', hy', e3⟩ := fldG_mem e2
          rw [z, ← e3]; exact hn y' hy'
        · rw [← z2]; exact hn z hz) (fun x hx hxA => upd_ne (fun z => hxA (by rw [z]; exact hb))) (fun x o ho => by rw [upd_ne (fun z => by rw [z, hbF] at ho; cases ho)]; exact rs.fh x o ho) (fun x hx => by
        by_cases z : x = b
        · rw [z, upd_same] at hx; cases hx
        · rw [upd_ne z] at hx; exact hx) (by rw [upd_ne hba.symm]; exact h') r' (List.nodup_cons.mpr hnd) fun x hx => .inl hx
    exact ⟨_, rs2, i2⟩
/-- name.f[k] = v -/
theorem putF_ok {j : Nat} {f : Str} {k v : Ex} (h : tS E cx W G (.putF j f k v) Dn σ H) : tAsg (tE E cx W v) (gSub (tFv E.w j f) (tRd E cx W k) rSetL) Dn σ H := by
  obtain ⟨s, F, own, rs, i, p⟩ := h
  have p' : PostS E.w cx W G F ((evE E.gl E.call v s).bind fun v s => (hasFL s j f).bind fun _ s => if k.noio then (rd k (evE E.gl E.call k) s).bind fun k s => ofS (putFS s j f k v.1) else .bad) Dn := p
  refine ⟨s, F, own, rs, p'.bnd i fun x s1 F1 H1 own1 f1 rs1 p1 u hu => ?_⟩
  obtain ⟨F2, sf, f2, rs2, hr⟩ := hu.frz f1 rs1
  have i2 := i.step f2
  have p2 := p1.grow sf
  cases q : hasFL s1 j f with
  | bad => rw [q] at p2; exact p2.elim
  | ex c x s' => unfold hasFL at q; split at q <;> (try split at q) <;> cases q
  | ok _ s' =>
    rw [q] at p2
    obtain ⟨rfl, a, dx, c, fs, b, us, e1, e2, e3, e4, e5, e6⟩ := hasFL_ok rs2 q
    cases hk : k.noio with
    | false => rw [hk] at p2; exact p2.elim
    | true =>
      rw [hk] at p2
      simp only [if_true, R.bind_ok] at p2
      refine ⟨a, dx, c, fs, .ref b, e1, e2, e3, e4, e5, s', F2, own1, rs2, p2.bnd i2 fun y s3 F3 H3 own3 f3 rs3 p3 z hz => ?_⟩
      have i3 := i2.step f3
      have e2' := f3.hn hk a _ e2
      unfold putFS at p3
      split at p3
      · rename_i p c' fs' e
        split at p3
        · rename_i xs k' eg
          cases q : ixN xs.length k' with
          | none => rw [q] at p3; exact p3.elim
          | some m =>
            rw [q] at p3
            obtain ⟨o, e1', r⟩ := rs3.sl j _ e
            rw [e1] at e1'
            generalize own3 j = A at r
            cases r with
            | @ob _ _ _ a' dx' vs' A h' n r hc hn =>
              cases e1'
              have := ins_inj e2' h'
              subst this
              obtain ⟨v', k1, _, k3⟩ := r.get eg
              obtain ⟨b', us', rfl, k4, k5, k6, k7, k8⟩ := k3 xs rfl
              rw [e5] at k1
              cases k1
              obtain ⟨own', rs4, i4⟩ := rs3.chgL i3 e eg e1 h' e5 (k6.set m (hr.mono f3.ff)) (by rw [List.length_set]; exact k7)
              exact ⟨b, us', k', m, rfl, hz.int, k4, by rw [k6.length]; exact q, p3 σ F3 _ own' (.refl _) i4 rs4⟩
        · exact p3.elim
      · exact p3.elim
/-- name.f.append(e) -/
theorem appF_ok {X : Cx} {j : Nat} {f : Str} {e : Ex} (h : tS E cx W G (.appF j f e) Dn σ H) : tDrop (tBM X.K "list" rAppend (tFv E.w j f) (tCons (tE E cx W e) tNil)) Dn σ H := by
  obtain ⟨s, F, own, rs, i, p⟩ := h
  have p' : PostS E.w cx W G F ((hasFL s j f).bind fun _ s => if e.noio then (evE E.gl E.call e s).bind fun x s => ofS (appFS s j f x.1) else .bad) Dn := p
  cases q : hasFL s j f with
  | bad => rw [q] at p'; exact p'.elim
  | ex c x s' => unfold hasFL at q; split at q <;> (try split at q) <;> cases q
  | ok _ s' =>
    rw [q] at p'
    obtain ⟨rfl, a, dx, c, fs, b, us, e1, e2, e3, e4, e5, e6⟩ := hasFL_ok rs q
    cases hk : e.noio with
    | false => rw [hk] at p'; exact p'.elim
    | true =>
      rw [hk] at p'
      simp only [if_true, R.bind_ok] at p'
      refine ⟨a, dx, c, fs, .ref b, e1, e2, e3, e4, e5, .inl ⟨rfl, us, .inl (.inl e6)⟩, s', F, own, rs, p'.bnd i fun x s1 F1 H1 own1 f1 rs1 p1 v hv => ?_⟩
      obtain ⟨F2, sf, f2, rs2, hr⟩ := hv.frz f1 rs1
      have i2 := i.step f2
      have p2 := p1.grow sf
      have e2' := f2.hn hk a _ e2
      unfold appFS at p2
      split at p2
      · rename_i p c' fs' e0
        split at p2
        · rename_i xs eg
          split at p2
          · rename_i hl
            obtain ⟨o, e1', r⟩ := rs2.sl j _ e0
            rw [e1] at e1'
            generalize own1 j = A at r
            cases r with
            | @ob _ _ _ a' dx' vs' A h' n r hc hn =>
              cases e1'
              have := ins_inj e2' h'
              subst this
              obtain ⟨v', k1, _, k3⟩ := r.get eg
              obtain ⟨b', us', rfl, k4, k5, k6, k7, k8⟩ := k3 xs rfl
              rw [e5] at k1
              cases k1
              have hl' : us'.length < limN := by rw [k6.length]; exact hl
              obtain ⟨own', rs4, i4⟩ := rs2.chgL i2 e0 eg e1 h' e5 (k6.snoc hr) (by rw [List.length_append]; exact hl')
              exact ⟨b, us', v, rfl, rfl, k4, Nat.lt_of_lt_of_le hl' limN_le, p2 σ F2 _ own' (.refl _) i4 rs4⟩
          · exact p2.elim
        · exact p2.elim
      · exact p2.elim
/-- name.f op= e -/
theorem augF_ok {K : PySem.W.Frag} (k : EnOk E) (hK : E.w.K = K) {j : Nat} {f : Str} {o : Bop} {e : Ex} (h : tS E cx W G (.augF j f o e) Dn σ H) : sFldAug K (tVar j) (tRd E cx W e) (rAug E.w o) f Dn σ H := by
  obtain ⟨s, F, own, rs, i, p⟩ := h
  have p' : PostS E.w cx W G F ((readO s j f).bind fun _ s => if e.noio then (rd e (evE E.gl E.call e) s).bind fun y s => (readO s j f).bind fun x s => (R.of (augD o x y) s).bind fun z s => ofS (setFS s j f (.sh z)) else .bad) Dn := p
  cases q : readO s j f with
  | bad => rw [q] at p'; exact p'.elim
  | ex c x s' => unfold readO at q; split at q <;> (try split at q) <;> cases q
  | ok r s' =>
    rw [q] at p'
    obtain ⟨rfl, a, dx, c, fs, v, e1, e2, e3, e4, e5, _⟩ := rs.fslot q
    obtain ⟨k1, k2⟩ := k.cl c e3
    cases hk : e.noio with
    | false => rw [hk] at p'; exact p'.elim
    | true =>
      rw [hk] at p'
      simp only [if_true, R.bind_ok] at p'
      refine ⟨.ref a, e1, a, _, dx, fs, v, rfl, e2, by rw [← hK]; exact k1, by rw [← hK]; exact k2 f e4, e5, s', F, own, rs, PostS.bnd (r := rd e (evE E.gl E.call e) s') (f := fun y s => (readO s j f).bind fun x s => (R.of (augD o x y) s).bind fun z s => ofS (setFS s j f (.sh z))) p' i fun y s2 F2 H2 own2 f2 rs2 p2 u hu => ?_⟩
      have i2 := i.step f2
      have e2' := f2.hn hk a _ e2
      cases q2 : readO s2 j f with
      | bad => rw [q2] at p2; exact p2.elim
      | ex c x s' => unfold readO at q2; split at q2 <;> (try split at q2) <;> cases q2
      | ok x s3 =>
        rw [q2] at p2
        obtain ⟨rfl, a', dx', c', fs', v', g1, g2, g3, g4, g5, bx⟩ := rs2.fslot q2
        rw [e1] at g1
        cases g1
        have := ins_inj e2' g2
        subst this
        rw [e5] at g5
        cases g5
        simp only [R.bind_ok] at p2
        cases q3 : augD o x y with
        | none => rw [q3] at p2; exact p2.elim
        | some z =>
          rw [q3] at p2
          simp only [R.of_some, R.bind_ok] at p2
          refine ⟨F2, x, y, z, rs2.fh, bx, hu, q3, fun F' H' vv ps nv => ?_⟩
          have rs5 := rs2.pst ps
          have i5 := i2.step (nz := true) (Frm.pst ps)
          have p5 := p2.grow ps.ff
          have hv : Rep E.w F' vv z := by
            rcases nv with ⟨_, h⟩ | ⟨h, _⟩
            · exact h
            · cases h
          have e2'' := (ps.hh a _ e2').1
          unfold setFS at p5
          split at p5
          · rename_i q c2 fs2 e0
            split at p5
            · rename_i hcond
              obtain ⟨hl, hf⟩ := hcond
              obtain ⟨o', eσ, r⟩ := rs5.sl j _ e0
              have hnd := rs5.nd j
              generalize hA : own2 j = A at r hnd
              cases r with
              | @ob _ _ _ a2 dx2 vs2 A hh n r hc hn =>
                rw [e1] at eσ
                cases eσ
                rw [List.nodup_cons] at hnd
                obtain ⟨A', r', s1', nd'⟩ := r.putS (f := f) hnd.2 hv
                have haA : a ∉ A' := fun z => hnd.1 (s1' a z)
                have hca : E.w.ca c = E.w.ca c2 := by
                  have q := e2''.symm.trans hh
                  simp only [Option.some.injEq, HO.ins.injEq] at q
                  exact q.1
                refine ⟨dx2, vs2, by rw [hca]; exact hh, by rw [r.length]; omega, ?_⟩
                rw [hca]
                obtain ⟨rs6, i6⟩ := rs5.chgO i5 (dx := dx2) (fs' := fldP f (.sh z) fs2) (H' := upd H' a (.ins (E.w.ca c2) dx2 (putF f vv vs2))) e0 e1 hA n hc (fun y hy => by
                    rcases fldP_names hy with z | ⟨z, hz, z2⟩
                    · rw [z]; exact hf
                    · rw [← z2]; exact hn z hz) (fun b hb _ => upd_ne hb) (fun b o ho => by rw [upd_ne (fun z => by rw [z, n] at ho; cases ho)]; exact rs5.fh b o ho) (fun b hb => by
                    by_cases z : b = a
                    · rw [z, upd_same] at hb; cases hb
                    · rw [upd_ne z] at hb; exact hb) upd_same (r'.step (.refl _) fun b hb o ho => ⟨by rw [upd_ne (show b ≠ a from fun z => haA (by rw [← z]; exact hb))]; exact ho, (r'.owned b hb).2⟩) (List.nodup_cons.mpr ⟨haA, nd'⟩) fun b hb => .inl (s1' b hb)
                exact p5 σ F' _ _ (.refl _) i6 rs6
            · exact p5.elim
          · exact p5.elim
/-- C(e, ..), what is raised wished for at the slots -/
def tMakeSD (C : Addr) (sp : Sp) (E : L2.St → XK) (t : TA) : TE := fun σ H Q => t σ H fun vs H1 => ∀ x dx, H1 x = none → H1 dx = none → dx ≠ x → sp (.ref x :: vs) (upd (upd H1 dx (.own x)) x (.ins C dx [])) (fun v H2 => v = .non ∧ Q (.ref x) H2) (E σ)
/-- name = C(e, ..) -/
theorem make_ok {j : Nat} {c f : Str} {xs : Exs} (hc : c ∈ E.w.cl) (hj : G.v0.isSome = true → j ≠ 0) {m : Nat} (hm : ∀ io ds, E.call f io ds ≠ .bad → ds.length + 1 = m) (h : tS E cx W G (.make j c f xs) Dn σ H) : tAsg (tMakeSD (E.w.ca c) (spI E f m) (WE W) (tXs E cx W xs)) (gName j) Dn σ H := by
  obtain ⟨s, F, own, rs, i, p⟩ := h
  have p' : PostS E.w cx W G F ((evXs E.gl E.call xs s).bind fun ds s => makeR (E.call f (.ob true c []) ds) j s) Dn := p
  refine ⟨s, F, own, rs, p'.bnd i fun ds s1 F1 H1 own1 f1 rs1 p1 vs hvs x dx hx hdx hne => ?_⟩
  have i1 := i.step f1
  have nb : E.call f (.ob true c []) ds ≠ .bad := fun q => by rw [q] at p1; exact p1.elim
  have hFx : F1 x = none := rs1.fh.none hx
  have hFd : F1 dx = none := rs1.fh.none hdx
  have fh1 : Sub F1 (upd (upd H1 dx (.own x)) x (.ins (E.w.ca c) dx [])) := fun b o ho => by
    rw [upd_ne (fun z => by rw [z, hFx] at ho; cases ho), upd_ne (fun z => by rw [z, hFd] at ho; cases ho)]; exact rs1.fh b o ho
  refine ⟨by rw [List.length_cons, hvs.length]; exact hm _ _ nb, F1, .ref x, vs, ds, .ob true c [], [x], rfl, fh1, .ob (dx := dx) upd_same hFx .nil hc (fun y hy => nomatch hy), List.nodup_cons.mpr ⟨by simp, .nil⟩, hvs, ?_⟩
  have core : ∀ {F' H' : Hp} {A' : List Addr}, Sub F' H' → Frm false F1 (upd (upd H1 dx (.own x)) x (.ins (E.w.ca c) dx [])) (own0 [x]) F' H' (own0 A') → Pst F1 H1 F' H' ∧ ∀ b ∈ A', H1 b = none := fun {F' H' A'} sf fr => by
    refine ⟨⟨fr.ff, sf, fun b o ho => ?_⟩, fun b hb => ?_⟩
    · have h1 : b ≠ x := ne_of_none ho hx
      have h2 : b ≠ dx := ne_of_none ho hdx
      exact fr.hh b o (by rw [upd_ne h1, upd_ne h2]; exact ho) (own0_out (by simpa using h1))
    · rcases fr.oo 0 b (by simpa [own0] using hb) with z | z
      · have : b = x := by simpa [own0] using z
        rw [this]; exact hx
      · by_cases h1 : b = x
        · rw [h1]; exact hx
        · by_cases h2 : b = dx
          · rw [h2]; exact hdx
          · rw [upd_ne h1, upd_ne h2] at z; exact z
  cases hcall : E.call f (.ob true c []) ds with
  | bad => exact absurd hcall nb
  | ex c' y io' =>
    rw [hcall] at p1
    intro F' H' A' dd sf fr _ _ ex
    obtain ⟨ps, _⟩ := core sf fr
    exact p1 σ F' H' own1 dd ps.ff (i1.step (nz := true) (Frm.pst ps)) (rs1.pst ps) ex
  | ret d fl io' =>
    rw [hcall] at p1
    intro F' H' A' v sf fr sr nd hv
    obtain ⟨ps, hno⟩ := core sf fr
    have rs2 := rs1.pst ps
    have i2 := i1.step (nz := true) (Frm.pst ps)
    have p2 := p1.grow ps.ff
    cases d with
    | non =>
      cases io' with
      | ob q c' fs =>
        refine ⟨?_, ?_⟩
        · rcases hv with ⟨_, h⟩ | ⟨_, _, _, _, _, z, _⟩
          · cases h; rfl
          · cases z
        · have p3 : PostS E.w cx W G F' (ofS (setS s1 j (.ob false c' fs))) Dn := p2
          unfold setS at p3
          split at p3
          · rename_i y ey
            split at p3
            · exact p3.elim
            · have hjl : j < s1.length := (List.getElem?_eq_some_iff.mp ey).1
              have rs3 := rs2.put (i := j) (x := .ob false c' fs) (o := some (.ref x)) (A := A') (σ' := σ.set j (some (.ref x))) hjl (List.length_set ..) (by rw [List.getElem?_set_self (by rw [← rs1.len]; exact hjl)]) (fun l hl => List.getElem?_set_ne (Ne.symm hl)) ((sr.pin (p := false)).toCx) nd fun b hb l hl => rs1.no (hno b hb) l
              refine p3 _ F' H' _ (.refl _) ⟨⟨i2.fr.ff, fun b o ho hno' => i2.fr.hh b o ho hno', fun z => (Bool.false_ne_true z).elim, fun l b hb => ?_, fun z => (Bool.false_ne_true z).elim, i2.fr.dm⟩, fun u e => ?_⟩ rs3
              · by_cases hl : l = j
                · subst hl
                  rw [ownSet_same] at hb
                  exact .inr (i1.fr.dm b (hno b hb))
                · rw [ownSet_ne hl] at hb
                  exact i2.fr.oo l b hb
              · rw [List.getElem?_set_ne (hj (by rw [e]; rfl))]
                exact i2.v0 u e
          · exact p3.elim
      | _ => exact p2.elim
    | _ => exact p2.elim
/-- while -/
theorem whN_some {t : Sg → R Bool} {b : Sg → R Fl} : ∀ {n m : Nat} {s : Sg} {r r' : R Fl}, whN t b n s = some r → whN t b m s = some r' → r = r'
  | 0, _, _, _, _, h, _ => by cases h
  | _ + 1, 0, _, _, _, _, h => by cases h
  | n + 1, m + 1, s, r, r', h, h' => by
    simp only [whN] at h h'
    cases ht : t s with
    | bad => rw [ht] at h h'; cases h; cases h'; rfl
    | ex c x s1 => rw [ht] at h h'; cases h; cases h'; rfl
    | ok k s1 =>
      rw [ht] at h h'
      cases k with
      | false => cases h; cases h'; rfl
      | true =>
        simp only at h h'
        cases hb : b s1 with
        | bad => rw [hb] at h h'; cases h; cases h'; rfl
        | ex c x s2 => rw [hb] at h h'; cases h; cases h'; rfl
        | ok f s2 =>
          rw [hb] at h h'
          cases f with
          | nx => exact whN_some h h'
          | ct => exact whN_some h h'
          | bk => cases h; cases h'; rfl
          | ret d fr => cases h; cases h'; rfl
theorem whR_eq {t : Sg → R Bool} {b : Sg → R Fl} {n : Nat} {s : Sg} {r : R Fl} (h : whN t b n s = some r) : whR t b s = r := by
  have hx : ∃ p : Nat × R Fl, whN t b p.1 s = some p.2 := ⟨(n, r), h⟩
  unfold whR
  rw [dif_pos hx]
  exact whN_some (Classical.choose_spec hx) h
theorem whR_ex {t : Sg → R Bool} {b : Sg → R Fl} {s : Sg} (h : whR t b s ≠ .bad) : ∃ n, whN t b n s = some (whR t b s) := by
  by_cases hx : ∃ p : Nat × R Fl, whN t b p.1 s = some p.2
  · obtain ⟨⟨n, r⟩, q⟩ := hx
    exact ⟨n, by rw [whR_eq q]; exact q⟩
  · unfold whR at h
    rw [dif_neg hx] at h
    exact absurd rfl h
theorem whil_ok {c : Ex} {b : Sms} (h : tS E cx W G (.whil c b) Dn σ H) : tWhile (tT E cx W c) (tSs E cx W G b) Dn σ H := by
  obtain ⟨s, F, own, rs, i, p⟩ := h
  have p' : PostS E.w cx W G F (whR (evT E.gl E.call c) (evMs E.gl E.call b) s) Dn := p
  have nb : whR (evT E.gl E.call c) (evMs E.gl E.call b) s ≠ .bad := fun e => by rw [e] at p'; exact p'
  obtain ⟨n, hn⟩ := whR_ex nb
  refine ⟨fun m σ H => ∃ s F own r, RS E.w cx s F σ H own ∧ Inb G σ F H own ∧ whN (evT E.gl E.call c) (evMs E.gl E.call b) m s = some r ∧ PostS E.w cx W G F r Dn, ⟨n, s, F, own, _, rs, i, hn, p'⟩, ?_⟩
  rintro m σ H ⟨s, F, own, r, rs, i, hm, p⟩
  cases m with
  | zero => cases hm
  | succ m =>
    have hm' : PostS E.w cx W G F ((evT E.gl E.call c s).bind fun k s1 => if k then (match evMs E.gl E.call b s1 with
        | .ok .nx s => (whN (evT E.gl E.call c) (evMs E.gl E.call b) m s).getD .bad
        | .ok .ct s => (whN (evT E.gl E.call c) (evMs E.gl E.call b) m s).getD .bad
        | .ok .bk s => .ok .nx s
        | .ok (.ret d fr) s => .ok (.ret d fr) s
        | .ex c x s => .ex c x s
        | .bad => .bad) else .ok .nx s1) Dn := by
      simp only [whN] at hm
      cases ht : evT E.gl E.call c s with
      | bad => rw [ht] at hm; cases hm; exact p
      | ex c x s1 => rw [ht] at hm; cases hm; exact p
      | ok k s1 =>
        rw [ht] at hm
        cases k with
        | false => cases hm; exact p
        | true =>
          simp only at hm
          simp only [R.bind_ok, if_true]
          cases hb : evMs E.gl E.call b s1 with
          | bad => rw [hb] at hm; cases hm; exact p
          | ex c x s2 => rw [hb] at hm; cases hm; exact p
          | ok f s2 =>
            rw [hb] at hm
            cases f with
            | nx => simp only at hm ⊢; rw [hm]; exact p
            | ct => simp only at hm ⊢; rw [hm]; exact p
            | bk => cases hm; exact p
            | ret d fr => cases hm; exact p
    refine ⟨s, F, own, rs, hm'.bnd i fun k s1 F1 H1 own1 f1 rs1 p1 => ?_⟩
    have i1 := i.step f1
    cases k with
    | false => exact p1 σ F1 H1 own1 (.refl _) i1 rs1
    | true =>
      simp only [if_true] at p1 ⊢
      refine ⟨fun σ' H' => ∃ s F own r, RS E.w cx s F σ' H' own ∧ Inb G σ' F H' own ∧ whN (evT E.gl E.call c) (evMs E.gl E.call b) m s = some r ∧ PostS E.w cx W G F r Dn, fun σ' H' h => ⟨m, Nat.lt_succ_self _, h⟩, s1, F1, own1, rs1, i1, ?_⟩
      have again : ∀ {s2 : Sg}, PostS E.w cx W G F1 ((whN (evT E.gl E.call c) (evMs E.gl E.call b) m s2).getD .bad) Dn → ∀ σ' F' H' own', Sub F1 F' → Inb G σ' F' H' own' → RS E.w cx s2 F' σ' H' own' →
          ∃ s F own r, RS E.w cx s F σ' H' own ∧ Inb G σ' F H' own ∧ whN (evT E.gl E.call c) (evMs E.gl E.call b) m s = some r ∧ PostS E.w cx W G F r Dn := fun {s2} p2 σ' F' H' own' sf i' rs' => by
        cases q : whN (evT E.gl E.call c) (evMs E.gl E.call b) m s2 with
        | none => rw [q] at p2; exact p2.elim
        | some r2 => rw [q] at p2; exact ⟨s2, F', own', r2, rs', i', q, PostS.grow (r := r2) p2 sf⟩
      cases hb : evMs E.gl E.call b s1 with
      | bad => rw [hb] at p1; exact p1
      | ex c x s2 => rw [hb] at p1; exact p1
      | ok f s2 =>
        rw [hb] at p1
        cases f with
        | nx => exact again p1
        | ct => exact again p1
        | bk => exact p1
        | ret d fr => exact p1
/-- for -/
theorem forr_ok {t : Tg} {it : IL.It} {b : Sms} (hio : ∀ v, G.v0 = some v → t.has 0 = false) (h : tS E cx W G (.forr t it b) Dn σ H) : tFor (tI E cx W it) (tG E cx t) (tSs E cx W G b) Dn σ H := by
  obtain ⟨s, F, own, rs, i, p⟩ := h
  have p' : PostS E.w cx W G F ((evIt E.gl E.call it s).bind fun ds s => loopF (fun x s => seqF (ofS (asg t x s)) (evMs E.gl E.call b)) ds s) Dn := p
  refine ⟨s, F, own, rs, p'.bnd i fun ds s1 F1 H1 own1 f1 rs1 p1 J hJ => ?_⟩
  let Pv : Nat → L2.St → Hp → Prop := fun n σ H => ∃ s F own, RS E.w cx s F σ H own ∧ Inb G σ F H own ∧ Sub F1 F ∧ PostS E.w cx W G F (loopF (fun x s => seqF (ofS (asg t x s)) (evMs E.gl E.call b)) (ds.drop n) s) Dn
  refine ⟨fun n m σ H => m = ds.length - n ∧ n ≤ ds.length ∧ Pv n σ H, ⟨ds.length, by simp, Nat.zero_le _, s1, F1, own1, rs1, i.step f1, .refl _, by simpa using p1⟩, ?_⟩
  rintro n m σ H ⟨rfl, hn, s, F, own, rs, i, sf, p⟩
  obtain ⟨hgo, hstop⟩ := hJ n F H sf rs.fh
  by_cases hlt : n < ds.length
  · obtain ⟨go, yl⟩ := hgo ds[n] (List.getElem?_eq_getElem hlt)
    refine .inr ⟨go, Pv (n + 1), fun σ' H' h => ⟨ds.length - (n + 1), by omega, rfl, hlt, h⟩, fun x H' y => ?_⟩
    obtain ⟨F', ps, hr⟩ := yl x H' y
    have rs' := rs.pst ps
    have i' := i.step (nz := true) (Frm.pst ps)
    have p2 := p.grow ps.ff
    rw [List.drop_eq_getElem_cons hlt] at p2
    simp only [loopF] at p2
    cases q : asg t ds[n] s with
    | none => rw [q] at p2; exact p2.elim
    | some s2 =>
      rw [q] at p2
      refine ⟨s, F', own, ds[n], s2, rs', hr, q, fun σ' own' rs2 sub z => ?_⟩
      have i2 := i'.less sub fun v e => z.2 0 (hio v e)
      refine ⟨s2, F', own', rs2, i2, ?_⟩
      have p3 : PostS E.w cx W G F' ((evMs E.gl E.call b s2).bind fun f s => match f with
        | .nx => loopF (fun x s => seqF (ofS (asg t x s)) (evMs E.gl E.call b)) (ds.drop (n + 1)) s
        | .ct => loopF (fun x s => seqF (ofS (asg t x s)) (evMs E.gl E.call b)) (ds.drop (n + 1)) s
        | .bk => .ok .nx s
        | .ret d fr => .ok (.ret d fr) s) Dn := p2
      cases hb : evMs E.gl E.call b s2 with
      | bad => rw [hb] at p3; exact p3
      | ex c x s3 => rw [hb] at p3; exact p3
      | ok f s3 =>
        rw [hb] at p3
        cases f with
        | nx => exact fun σ3 F3 H3 own3 sf3 i3 rs3 => ⟨s3, F3, own3, rs3, i3, (sf.trans ps.ff).trans sf3, PostS.grow (F := F') p3 sf3⟩
        | ct => exact fun σ3 F3 H3 own3 sf3 i3 rs3 => ⟨s3, F3, own3, rs3, i3, (sf.trans ps.ff).trans sf3, PostS.grow (F := F') p3 sf3⟩
        | bk => exact p3
        | ret d fr => exact p3
  · have e : n = ds.length := by omega
    subst e
    rw [List.drop_length] at p
    exact .inl ⟨hstop rfl, p σ F H own (.refl _) i rs⟩
/-- the words' cases, one by one -/
def wordsOf (E : En) (cx : Cxs) (W : WX) (G : Gs) : Hds → List (Str × TS)
  | .nil => []
  | .cons y _ b r => (y, tSs E cx W G b) :: wordsOf E cx W G r
theorem words_ok {z : Str} {s : Sg} {F : Hp} {own : Nat → List Addr} (rs : RS E.w cx s F σ H own) (i : Inb G σ F H own) : ∀ {h : Hds}, PostS E.w cx W G F (evW E.gl E.call h z s) Dn → tWord z (wordsOf E cx W G h) Dn σ H
  | .nil, p => p σ F H own (.refl _) i rs
  | .cons y none b r, p => by
    unfold wordsOf tWord
    by_cases hz : z = y
    · rw [if_pos hz]
      refine ⟨s, F, own, rs, i, ?_⟩
      simpa only [evW, if_pos hz] using p
    · rw [if_neg hz]
      exact words_ok rs i (by simpa only [evW, if_neg hz] using p)
  | .cons y (some j) b r, p => by
    have p : PostS E.w cx W G F .bad Dn := by simpa only [evW] using p
    exact p.elim
theorem mat_ok {e : Ex} {h : Hds} (q : tS E cx W G (.mat e h) Dn σ H) : tRd E cx W e σ H fun x H1 => ∃ z, x = .str z ∧ tWord z (wordsOf E cx W G h) Dn σ H1 := by
  obtain ⟨s, F, own, rs, i, p⟩ := q
  have p' : PostS E.w cx W G F ((rd e (evE E.gl E.call e) s).bind fun x s => wordR x fun z => evW E.gl E.call h z s) Dn := by
    rw [evM] at p; exact p
  refine ⟨s, F, own, rs, p'.bnd i fun x s1 F1 H1 own1 f1 rs1 p1 v hb => ?_⟩
  cases x with
  | str z =>
    obtain ⟨rfl, _, _⟩ := hb.str
    exact ⟨_, rfl, words_ok rs1 (i.step f1) p1⟩
  | _ => exact p1.elim
end
end IL
end
section
set_option maxHeartbeats 4000000
namespace IL
open PySem PySem.W PySem.Calls PyProof.Rows PySem.HandSPX
/-- the fields' names -/
inductive Fd where
  | at_ | part | index | cert | limit | number
  deriving DecidableEq
def Fd.s : Fd → Str
  | .at_ => "at" | .part => "part" | .index => "index" | .cert => "certificate" | .limit => "limit" | .number => "number"
def Fd.of (x : Str) : Option Fd := [Fd.at_, .part, .index, .cert, .limit, .number].find? fun f => f.s == x
def iA (f : Str) (p1 p2 : Pos) : Arguments := { posonlyargs := [], args := [{ arg := "self", annotation := none, pos := p1 }, { arg := f, annotation := none, pos := p2 }], vararg := none, kwonlyargs := [], kw_defaults := [], kwarg := none, defaults := [] }
def iB (f : Str) (q1 q2 q3 q4 : Pos) : List Stmt := [.Assign [.Attribute (.Name "self" q1) f q2] (.Name f q3) q4]
def iS (f : Str) : Scope := { kind := .function, names := [(PySem.Str.ofString "self", .local), (f, .local)], isGenerator := false, isCoroutine := false, more := [] }
/-- what the written part says of the class, at C, and of its __init__, at fI -/
structure ErT (K : Frag) (f : Fd) (C fI : Addr) : Prop where
  cls : ∃ nm q N bs bm sn sub ab col dd k0 k1 k2 k3 k5, K.lookup C = some (excClassObj nm q C N bs bm true sn sub ab col dd k0 k1 k2 k3 k5 "ValueError.__new__") ∧ refsVE bm = true
  sa : findIn K (.ref C) "__setattr__" = some (some (.builtin "object.__setattr__"))
  noN : findIn K (.ref C) f.s = some none
  iC : findIn K (.ref C) "__init__" = some (some (.ref fI))
  tC : typeIn K (.ref fI) = some (.type "function")
  kC : keepIn K (.ref C) = true
  exC : subIn K (.ref C) (.type "BaseException") = some true
  tyC : typeIn K (.ref C) = some (.type "type")
  fn : ∃ (oc : Value) (od : Option Addr) (nm qn : Str) (kV doc pm : Value) (an : Option Addr) (cdv ct : Value) (osl : Array (Option Value)) (p1 p2 q1 q2 q3 q4 : Pos),
    K.lookup fI = some ⟨oc, od, .func (fnOf nm qn (iA f.s p1 p2) (iB f.s q1 q2 q3 q4) (iS f.s) .none kV doc pm an cdv ct), osl⟩ ∧ codeIn K cdv qn = true
theorem one_size (v : Value) : [v].length ≤ sizeLine := by
  rw [sizeLine_eq]
  exact (by decide : 1 ≤ 16777216)
theorem ldC {M : Model} {s : Shared} {name : Str} {scope : Scope} {L a : Addr} {cd : Value} {m : Str → Option Value} {x : Str} {pos : Pos} {v : Value} {Q : Value → Shared → Prop} {A : Around} {E : Value → Shared → Prop} (hn : s.heap.Ns L m) (hv : m x = some v) (h : Q v s)
    (hk : scope.kind = .function := by rfl) (hl : (envOfC name scope L a cd).kindOf x = some .local := by rfl) (hd : (x == ("__debug__" : Str)) = false := by decide) :
    wpAny M A (eval (.Name x pos) (envOfC name scope L a cd)) Q E s := wpAny_Name (wpAny_loadName_local hk hl hn hv h) hd
/-- what __init__ leaves of a fresh exception at x -/
structure InitEnd (f : Fd) (h h' : Heap) (x C dx t1 : Addr) (v : Value) : Prop where
  keep : ∀ b o, b ≠ x → h.get? b = some o → h'.get? b = some o
  obj : h'.get? x = some { cls := .ref C, dict := some dx, data := .fields #[.ref t1, .none, .none, .none, .bool false, .none] }
  dbig : h.objs.size ≤ dx
  dne : dx ≠ x
  ns : h'.Ns1 dx (fun y => if y = f.s then some v else none)
/-- a made one -/
structure OwnMade (f : Fd) (h h' : Heap) (e C d : Addr) (v : Value) : Prop where
  keep : ∀ b o, h.get? b = some o → h'.get? b = some o
  new : h.objs.size ≤ e
  obj : ∃ oe vs, h'.get? e = some oe ∧ oe.cls = .ref C ∧ oe.dict = some d ∧ oe.data = .fields vs ∧ vs[1]? = some .none
  dbig : h.objs.size ≤ d
  dne : d ≠ e
  ns : h'.Ns1 d (fun y => if y = f.s then some v else none)
section
variable {prog : Program} {w : World} {A : Around} {E : Value → Shared → Prop} {R : Result → Shared → Prop} {s : Shared} {K : Frag} {C fI : Addr} {f : Fd}
theorem low_init (T : ErT K f C fI) {x t0 : Addr} {v : Value} (X : K.In s.heap) (hlim : s.heap.NoLimit) (hx : s.heap.get? x = some (excO C t0)) (hnx : K.lookup x = none) (hroom : A.depth < recursionLimit)
    (hq : ∀ h' tk dx, InitEnd f s.heap h' x C dx t0 v → R (.ok (.ret .none)) { s with heap := h', toks := tk }) :
    codeAny (model prog w) A (.call (.ref fI) ⟨[.ref x, v], []⟩) R s := by
  obtain ⟨oc, od, fnm, qn, kV, doc, pm, an, cdv, ct, osl, p1, p2, q1, q2, q3, q4, ho, hcd⟩ := T.fn
  obtain ⟨nm, q, N, bs, bm, sn, sub, ab, col, dd, k0, k1, k2, k3, k5, hC, hbm⟩ := T.cls
  have hcl : clsIn K C = some { name := nm, bases := bs, mro := .ref C :: bm, ns := N, qualname := q, hasDict := true, slotNames := sn, subclasses := sub, abstract := ab, collection := col, hasDel := false } := by unfold clsIn; rw [hC] <;> rfl
  have noN := T.noN
  have sa := T.sa
  clear T
  cases f <;>
  · refine Att.call_fn (binds := [("self", .ref x), (_, v)]) X hlim ho hcd hroom (BindsTo.of_eq (by first | rfl | with_unfolding_all rfl)) (by first | rfl | decide | with_unfolding_all rfl) (fun s₁ IC => ?_) rfl rfl rfl
    obtain ⟨h₁, tk₁, rfl⟩ := IC.toInCall.same
    have k : ∀ b o, s.heap.get? b = some o → h₁.get? b = some o := IC.toInCall.keep
    have hn := IC.toInCall.ns
    have hxL : s.heap.objs.size ≠ x := Nat.ne_of_gt (Heap.lt_size hx)
    have X₁ : K.In h₁ := X.keeps k
    have hx₁ := k _ _ hx
    show wpAny _ _ (execs _ _) _ _ _
    refine wpAny_execs_cons (plainObj_wpAny_Assign_Attribute ?_)
    refine ldC (v := v) hn (by first | rfl | with_unfolding_all rfl | kernel_rfl) (ldC (v := .ref x) hn (by first | rfl | with_unfolding_all rfl | kernel_rfl) ?_)
    refine set_plain X₁ (ox := excO C t0) (od := none) ⟨hx₁, rfl, rfl, trivial⟩ sa ?_
    refine exc_osa X₁ hx₁ hcl (show refsVE (.ref C :: bm) = true from hbm) rfl noN (fun h₃ tk₃ dx k₃ dn dne hx₃ hn₃ => ?_)
    show wpAny _ _ (execs _ _) _ _ _
    have z : s.heap.objs.size < h₁.objs.size := hn.lt
    exact wpAny_execs_nil (hq h₃ tk₃ dx ⟨fun b o hb e => k₃ b o hb (k b o e), hx₃, Nat.le_of_lt (Nat.lt_of_lt_of_le z dn), dne, hn₃⟩)
theorem low_made (T : ErT K f C fI) {v : Value} (X : K.In s.heap) (hlim : s.heap.NoLimit) (hroom : A.depth + 1 < recursionLimit)
    (hq : ∀ h' tk e d, OwnMade f s.heap h' e C d v → R (.ok (.ret (.ref e))) { s with heap := h', toks := tk }) :
    codeAny (model prog w) A (.call (.ref C) ⟨[v], []⟩) R s := by
  obtain ⟨nm, q, N, bs, bm, sn, sub, ab, col, dd, k0, k1, k2, k3, k5, hC, hbm⟩ := T.cls
  obtain ⟨hp, g, dr, tk, os⟩ := s
  have k : ∀ b o, hp.get? b = some o → ((hp.push (kdv_tup [v])).push (excO C hp.objs.size)).get? b = some o := fun b o e => Heap.get?_push_of_some _ (Heap.get?_push_of_some _ e)
  have hget : ((hp.push (kdv_tup [v])).push (excO C hp.objs.size)).get? (hp.objs.size + 1) = some (excO C hp.objs.size) := by heap_get
  have hnx : K.lookup (hp.objs.size + 1) = none := by
    cases e : K.lookup (hp.objs.size + 1) with
    | none => rfl
    | some o =>
      have z : hp.get? (hp.objs.size + 1) = some o := X _ _ e
      exact absurd (Nat.lt_of_succ_lt (Heap.lt_size z)) (Nat.lt_irrefl _)
  refine call_own F.excBase_ValueError (fun X => refsVE_contains X bm hbm) (X _ _ hC) (looks_findIn X T.iC) (fun self => bind_fn X self T.tC) (one_size v) ?_
  refine low_init (s := ⟨(hp.push (kdv_tup [v])).push (excO C hp.objs.size), g, dr, tk, os⟩) T (X.keeps k) (hlim.keeps k) hget hnx ?_ fun h' tk' dx ⟨k', hx, dn, dne, hns⟩ => ?_
  · show A.depth + 1 < recursionLimit
    exact hroom
  · have old : ∀ b o, hp.get? b = some o → h'.get? b = some o := fun b o e => k' b o (Nat.ne_of_lt (Nat.lt_succ_of_lt (Heap.lt_size e))) (k b o e)
    have z : hp.objs.size + 1 + 1 ≤ dx := by
      first
        | (simpa only [Heap.size_push] using dn)
        | exact dn
        | (have q := dn; rw [Heap.size_push, Heap.size_push] at q; exact q)
    exact ⟨rfl, hq h' tk' (hp.objs.size + 1) dx ⟨old, Nat.le_succ _, ⟨_, _, hx, rfl, rfl, rfl, rfl⟩, Nat.le_trans (Nat.le_trans (Nat.le_succ _) (Nat.le_succ _)) z, dne, hns⟩⟩
end
end IL
namespace IL
open PySem PySem.Spec PyProof.Rows L2
theorem relO_low {v : V} {v' : Value} {n : Str} (r : RelV v v') (f : Str) : RelO (List.lookup f [(n, v)]) (if f = n then some v' else none) := by
  by_cases hw : f = n
  · subst hw
    rw [if_pos rfl]
    have q : List.lookup f [(f, v)] = some v := by simp [List.lookup]
    rw [q]
    exact r
  · rw [if_neg hw]
    have qw : (f == n) = false := by simpa using hw
    have q2 : List.lookup f [(n, v)] = none := by simp [List.lookup, qw]
    rw [q2]
    trivial
section
variable {X : Cx} {C fI : Addr} {f : Fd}
/-- c(e) -/
def tMkLow (f : Fd) (C : Addr) (ta : TE) : L2.St → Hp → XK → Prop := fun σ H Q => ta σ H fun v H1 => ∀ d, H1 d = none → Q (.ref C) (some d) (upd H1 d (.xd [(f.s, v)]))
theorem pmk_low {c : Str} {a : Expr} {ta : TE} {p pos : Pos} {k : Nat} (T : ErT X.K f C fI) (hr : Room k X.A) (ha : PE X a ta) (hg : Gl X c) (hm : X.mg c = some (.ref C)) (hd0 : (c == ("__debug__" : Str)) = false)
    (he : starEach (a :: []) X.env = (false, eval a X.env) :: starEach [] X.env) (hpl : (backTo pos (starEach [] X.env)).any (·.1) = false := by rfl) :
    PMk X (.Call (.Name c p) [a] [] pos) (tMkLow f C ta) := by
  intro pins s σ H Q I h
  have ha' : PA X [a] (tCons ta tNil) := pa_cons ha pa_nil he
  have h' : tCons ta tNil σ H (fun vs H1 => match vs with | [v] => ∀ d, H1 d = none → Q (.ref C) (some d) (upd H1 d (.xd [(f.s, v)])) | _ => False) := h
  refine wpAny_Call_Name_kw (ld_glob I hg hm ?_ hd0)
  refine PySem.W.callWith_K (h₀ := X.base) I.ok.mod.kin T.kC (thn (ha'.run pos pins s σ H _ I h') fun us s1 hh => ?_) he hpl
  obtain ⟨vs, H1, I1, r1, q1⟩ := hh
  split at q1
  · rename_i v
    refine ⟨I1.kIn, ?_⟩
    cases r1 with
    | cons rv rn =>
      rename_i v' us'
      cases rn
      show wpAny _ _ (call (.ref C) [v']) _ _ _
      have hlim := I1.nolimit
      obtain ⟨hp, g, dr, tk, os⟩ := s1
      refine wpAny_call (low_made T I1.kIn hlim (by have := hr.dp; omega) fun h' tk' e d M => ?_)
      show MkP X pins σ Q (.ref e) ⟨h', g, dr, tk', os⟩
      obtain ⟨oe, fv, hoe, hc, hd, hdat, h1⟩ := M.obj
      have hns := M.ns
      obtain ⟨G', g1, g2⟩ := restrict h' fun b => decide (b ≠ e)
      have gk : ∀ b, b ≠ e → G'.get? b = h'.get? b := fun b hb => g1 b (decide_eq_true hb)
      have ge : G'.get? e = none := g2 e (by simp)
      have old : ∀ b o, hp.get? b = some o → G'.get? b = some o := fun b o q => (gk b (Nat.ne_of_lt (Nat.lt_of_lt_of_le (Heap.lt_size q) M.new))).trans (M.keep b o q)
      have ob : ObjOk X.prog X.w (upd H1 d (.xd [(f.s, v)])) G' d (.xd [(f.s, v)]) :=
        ⟨_, hns.at (fun o q => (gk d M.dne).trans q), fun f => relO_low rv f⟩
      have J : Inv X pins σ (upd H1 d (.xd [(f.s, v)])) ⟨G', g, dr, tk', os⟩ := I1.laid (t' := tk') old M.dbig ob
      refine ⟨e, oe, fv, ⟨G', g, dr, tk', os⟩, _, .ref C, some d, rfl, J, fun b o q => ?_, ge, hoe, ⟨hc, hd⟩, hdat, h1, ?_, rfl, I1.bare, raises_own T.exC T.tyC, q1 d (I1.hok.fresh M.dbig)⟩
      · by_cases hb : b = e
        · have q' : G'.get? b = some o := q
          rw [hb, ge] at q'; cases q'
        · exact (gk b hb).symm.trans q
      · rw [upd_ne (Ne.symm M.dne)]
        exact I1.hok.fresh M.new
  · exact q1.elim
end
end IL
end
section
set_option maxHeartbeats 4000000
namespace IL
open PySem PySem.Spec PyProof.Rows L2
/-- what a suite is: of the exception, its class, its dict -/
abbrev CT := Addr → Value → Option Addr → TS
/-- a clause: the class it names, its name's slot, its suite -/
structure Cl where
  c : Value
  i : Option Nat
  t : CT
/-- the slot is empty behind the suite -/
def leaveC (D : Ends) : Option Nat → Ends
  | none => D
  | some i => ⟨fun σ H => D.nx (σ.set i none) H, D.rt, fun σ H => D.bk (σ.set i none) H, fun σ H => D.ct (σ.set i none) H⟩
def bindC (σ : L2.St) (a : Addr) : Option Nat → L2.St
  | none => σ
  | some i => σ.set i (some (.ref a))
def wCl (K : PySem.W.Frag) (Wo : WX) (D : Ends) : List Cl → WX
  | [], cls, d, σ, H => Wo cls d σ H
  | q :: r, cls, d, σ, H => (PySem.W.exmOne K cls q.c = some true ∧ ∀ a, H a = none → q.t a cls d (leaveC D q.i) (bindC σ a q.i) H) ∨ (PySem.W.exmOne K cls q.c = some false ∧ wCl K Wo D r cls d σ H)
abbrev SuOk (X : Cx) (su : List Stmt) (t : CT) : Prop :=
  ∀ (a : Addr) (o : Obj) (cls : Value) (d : Option Addr) (pn : List (Addr × Obj)), Zc cls d o → (∃ vs, o.data = .fields vs) → PSs (X.suite a ((a, o) :: pn)) su (t a cls d)
inductive ClOk (X : Cx) : ExceptHandler → Cl → Prop
  | no {x : Str} {c : Value} {t : CT} {b : Stmt} {su : List Stmt} {p q : Pos} (hc : Names X x c) (hs : SuOk X (b :: su) t) : ClOk X (.ExceptHandler (some (.Name x p)) none (b :: su) q) ⟨c, none, t⟩
  | yes {x n : Str} {i : Nat} {c : Value} {t : CT} {b : Stmt} {su : List Stmt} {p q : Pos} (hc : Names X x c) (hi : X.N[i]? = some n) (hl : X.env.kindOf n = some .local) (hs : SuOk X (b :: su) t) :
      ClOk X (.ExceptHandler (some (.Name x p)) (some n) (b :: su) q) ⟨c, some i, t⟩
inductive ClsOk (X : Cx) : List ExceptHandler → List Cl → Prop
  | nil : ClsOk X [] []
  | cons {h : ExceptHandler} {q : Cl} {hs : List ExceptHandler} {l : List Cl} (o : ClOk X h q) (r : ClsOk X hs l) : ClsOk X (h :: hs) (q :: l)
section
variable {X : Cx}
theorem not_frame {B : Heap} {fs : List Env} {h : Heap} {a : Addr} {o : Obj} {vs : Array Value} (ff : h.FunFrames B fs) (e : h.get? a = some o) (dd : o.data = .fields vs) : a ∉ frs fs := fun hm => by
  obtain ⟨_, o2, e2, no⟩ := ff.mem hm
  cases e.symm.trans e2
  exact no _ dd
/-- try: body; except ..: ..; except .. as ..: .. -/
theorem ps_tryC {body : List Stmt} {hd : ExceptHandler} {hds : List ExceptHandler} {l : List Cl} {pos : Pos} {tb : WX → TS} {Wo : WX} (hN : X.N.Nodup) (st : X.stack = X.env :: X.outer) (fr : X.env.frame = some X.env.locals) (tk : Takes X Wo)
    (hb : ∀ (W : WX) (pn : List (Addr × Obj)) (xe : Value → Shared → Prop), Takes (X.tr pn xe) W → PassesOwn (model X.prog X.w) X.A X.env xe → PSs (X.tr pn xe) body (tb W)) (hh : ClsOk X (hd :: hds) l) :
    PS X (.Try body (hd :: hds) [] [] pos) fun D σ H => tb (wCl X.K Wo D l) D σ H := ⟨fun pins s σ H D I r => by
  have ok := I.ok
  have fs : X.A.frames = some (X.env :: X.outer) := by rw [ok.frames, st]
  let M := model X.prog X.w
  refine wpAny_Try_except (wpAny_mono ((hb (wCl X.K Wo D l) (X.pn ++ pins) (fun e s₁ => wpAny M X.A (noteFrame e X.env) (fun _ s₂ => wpAny M X.A (setFlight e none) (fun _ s₃ => wpAny M X.A (handleBy e X.env (hd :: hds)) (SP X pins D) X.xe s₃) X.xe s₂) X.xe s₁)
    (fun u s1 q => ?_) PassesOwn.looking).run [] s σ H D (I.toTry _) r) (fun f s1 q => ?_) fun _ _ q => q)
  · obtain ⟨a, B, s0, pins', σ1, H1, cls, d, rfl, J, nb, up, sky, na, os, ag, w⟩ := q
    replace J := J.ofTry ok
    rw [st] at sky
    refine Sky.land Zc.steady fs fr sky fun h3 fl up3 => ?_
    have K3 := J.landed (s' := { s1 with heap := h3 }) nb fl.1 (up.trans up3) os ag
    obtain ⟨o3, vs, e3, z3, dt3⟩ := fl.there
    have out := not_frame fl.2.2.1 e3 dt3
    have oL : a ≠ X.env.locals := fun z => out (List.mem_filterMap.mpr ⟨X.env, List.mem_cons_self, by rw [fr, z]⟩)
    have oF : a ∉ X.fs := fun m => by
      obtain ⟨e, he, q⟩ := List.mem_filterMap.mp m
      exact out (List.mem_filterMap.mpr ⟨e, List.mem_cons_of_mem _ he, q⟩)
    have U3 := K3.suite e3 dt3 na oL oF
    have isA : ∀ {c : Value} {b : Bool}, PySem.W.exmOne X.K cls c = some b → _ := fun {c b} hb => PySem.W.exm_one (M := M) K3.kIn (fun A Q E s k q => wpAny_typeOf_ref (k _ _ e3) (by rw [z3.1]; exact q)) hb
    have named : ∀ {x : Str} {c : Value} {p : Pos} {Q : Value → Shared → Prop} {E : Value → Shared → Prop}, Names X x c → Q c { s1 with heap := h3 } → wpAny M (X.A.mark (some (.ref a))) (eval (.Name x p) X.env) Q E { s1 with heap := h3 } := fun nm q => by
      obtain ⟨g, dbg, e | ⟨e, v, nn⟩⟩ := nm
      · exact ld_glob (X := X.suite a ((a, o3) :: (X.pn ++ pins))) U3 g e q dbg
      · exact ld_blt (X := X.suite a ((a, o3) :: (X.pn ++ pins))) U3 g e v q nn dbg
    have each : ∀ (hs : List ExceptHandler) (l : List Cl), ClsOk X hs l → wCl X.K Wo D l cls d σ1 H1 → wpAny M X.A (handleBy (.ref a) X.env hs) (SP X pins D) X.xe { s1 with heap := h3 } := fun hs l hk => by
      induction hk with
      | nil =>
        intro w
        obtain ⟨_, _, _, o, vs, T, _, _, e, _, dt, h1, _⟩ := id fl
        refine wpAny_handleBy_nil ?_
        have go : wpAny M X.A (setFlight (.ref a) X.env.frame) (fun _ s4 => wpAny M X.A (throw (.ref a) : Sem Flow) (SP X pins D) X.xe s4) X.xe { s1 with heap := h3 } := by
          rw [fr]
          exact HandSPX.setFlight_upZ fl fun h4 g4 up4 => wpAny_throw (tk _ _ ⟨a, B, s0, pins, σ1, H1, cls, d, rfl, J, nb, (up.trans up3).trans up4, .inr (.inr (by rw [st]; exact g4)), na, os, ag, w⟩)
        unfold PySem.passOn
        refine wpAny_bind (wpAny_field e dt h1 ?_)
        rw [if_neg (show ¬ ((Value.ref T == Value.none) = true) by simp)]
        first
          | exact wpAny_bind (wpAny_pure (wpAny_bind go))
          | exact wpAny_bind go
      | @cons h q hs l o rest ih =>
        intro w
        cases o with
        | @no x c t b su p q hc hs' =>
          refine wpAny_handleBy_cons (codeAny_handlers_test ?_) (by intro q; cases q)
          rcases w with ⟨e1, w⟩ | ⟨e0, w⟩
          · refine named hc ((isA e1).here ?_)
            refine codeAny_handlers_suite (HandSPX.lands_againZ fl fun h4 fl4 up4 => ?_)
            have K4 := J.landed (s' := { s1 with heap := h4 }) nb fl4.1 ((up.trans up3).trans up4) os ag
            obtain ⟨o4, vs4, e4, z4, dt4⟩ := fl4.there
            refine wpAny_mono ((hs' a o4 cls d (X.pn ++ pins) z4 ⟨_, dt4⟩).run [] _ _ H1 _ (K4.suite e4 dt4 na oL oF) (w a na)) (fun f s6 v => ?_) fun _ _ z => z.elim
            cases f with
            | ret u => obtain ⟨v6, σ6, H6, U6, r6, q6⟩ := v; exact ⟨_, _, _, U6.unsuite ok, r6, q6⟩
            | next => obtain ⟨σ6, H6, U6, q6⟩ := v; exact ⟨_, _, U6.unsuite ok, q6⟩
            | brk => obtain ⟨σ6, H6, U6, q6⟩ := v; exact ⟨_, _, U6.unsuite ok, q6⟩
            | cont => obtain ⟨σ6, H6, U6, q6⟩ := v; exact ⟨_, _, U6.unsuite ok, q6⟩
          · refine named hc ((isA e0).here ?_)
            show wpAny M X.A (handleBy (.ref a) X.env hs) _ _ _
            exact ih w
        | @yes x n i c t b su p q hc hi hl hs' =>
          refine wpAny_handleBy_cons (codeAny_handlers_test ?_) (by intro q; cases q)
          rcases w with ⟨e1, w⟩ | ⟨e0, w⟩
          · refine named hc ((isA e1).here ?_)
            refine codeAny_handlers_suite_as (HandSPX.lands_againZ fl fun h4 fl4 up4 => ?_)
            have K4 := J.landed (s' := { s1 with heap := h4 }) nb fl4.1 ((up.trans up3).trans up4) os ag
            obtain ⟨o4, vs4, e4, z4, dt4⟩ := fl4.there
            refine store_ok (X := X.suite a ((a, o4) :: (X.pn ++ pins))) (v := .ref a) (K4.suite e4 dt4 na oL oF) hN hi (.inl hl) rfl (fun s5 U5 => ?_) (.inr hl)
            refine wpAny_mono ((hs' a o4 cls d (X.pn ++ pins) z4 ⟨_, dt4⟩).run [] s5 _ H1 _ U5 (w a na)) (fun f s6 v => ?_) fun _ _ z => z.elim
            cases f with
            | ret u => obtain ⟨v6, σ6, H6, U6, r6, q6⟩ := v; exact gone_ok (U6.unsuite ok) hN hi hl fun s7 U7 => ⟨_, _, _, U7, r6, q6⟩
            | next => obtain ⟨σ6, H6, U6, q6⟩ := v; exact gone_ok (U6.unsuite ok) hN hi hl fun s7 U7 => ⟨_, _, U7, q6⟩
            | brk => obtain ⟨σ6, H6, U6, q6⟩ := v; exact gone_ok (U6.unsuite ok) hN hi hl fun s7 U7 => ⟨_, _, U7, q6⟩
            | cont => obtain ⟨σ6, H6, U6, q6⟩ := v; exact gone_ok (U6.unsuite ok) hN hi hl fun s7 U7 => ⟨_, _, U7, q6⟩
          · refine named hc ((isA e0).here ?_)
            show wpAny M X.A (handleBy (.ref a) X.env hs) _ _ _
            exact ih w
    exact each _ _ hh w
  · cases f with
    | ret u => obtain ⟨v, σ1, H1, J, r, q⟩ := q; exact ⟨v, σ1, H1, J.ofTry ok, r, q⟩
    | next => obtain ⟨σ1, H1, J, q⟩ := q; exact wpAny_execs_nil ⟨σ1, H1, J.ofTry ok, q⟩
    | brk => obtain ⟨σ1, H1, J, q⟩ := q; exact ⟨σ1, H1, J.ofTry ok, q⟩
    | cont => obtain ⟨σ1, H1, J, q⟩ := q; exact ⟨σ1, H1, J.ofTry ok, q⟩⟩
end
end IL
end
section
set_option maxHeartbeats 4000000
namespace IL
open PySem PySem.Spec PyProof.Rows L2
def noComp : Expr → Bool
  | .ListComp _ _ _ _ => false | .SetComp _ _ _ _ => false | .DictComp _ _ _ _ _ => false | _ => true
theorem swaps_none {e : Expr} {t : Option Expr} {l : Nat} {env : Env} (h : noComp e = true) : swapsWith e t l env = pure false := by
  cases e <;> first | rfl | simp [noComp] at h
theorem swaps_sole {e t : Expr} {l : Nat} {env : Env} (h : noComp e = true) : swapsWithSole [t] e l env = pure false := swaps_none h
def noTupD : Expr → Bool
  | .Tuple _ _ _ => false | _ => true
theorem swapped_none {ts : List Expr} {e : Expr} {env : Env} (h : noTupD e = true) : swappedStores ts e env = pure none := by
  cases e <;> first | (simp [noTupD] at h; done) | (unfold swappedStores; cases ts with
    | nil => rfl
    | cons t r => cases r <;> cases t <;> rfl)
theorem swapped_sub {a b e : Expr} {p : Pos} {env : Env} : swappedStores [.Subscript a b p] e env = pure none := by
  cases e <;> (unfold swappedStores; rfl)
theorem assign_one {t : Expr} {env : Env} (h : ∀ x p, t ≠ .Starred x p) : (assignEach [t] env).map (·.2) = [assign t env] := by
  cases t <;> first | exact absurd rfl (h _ _) | rfl
def isLcl (C : Cn) (i : Nat) (x : Str) : Bool := C.N[i]? == some x && C.sc.names.lookup x == some .local && !(C.io && i == 0)
def parC (px py : Pos) (x y : Str) (a b : Expr) : Bool := px.line == py.line && x != y && noStar [a, b] && !([a, b].all (foldedForSure 8)) && !([a, b].all (constantsAlone 8))
theorem swapped_two {x y : Str} {px py pt : Pos} {kt k2 : Nat} {pt2 : Pos} {a b : Expr} {env : Env} (hb : env.blockKind = .function) (kx : env.kindOf x = some .local) (ky : env.kindOf y = some .local) (hc : parC px py x y a b = true) :
    swappedStores [.Tuple [.Name x px, .Name y py] kt pt] (.Tuple [a, b] k2 pt2) env = pure (some [x, y]) := by
  simp only [parC, Bool.and_eq_true, beq_iff_eq, bne_iff_ne, Bool.not_eq_true'] at hc
  obtain ⟨⟨⟨⟨h1, h2⟩, h3⟩, h4⟩, h5⟩ := hc
  obtain ⟨q1, q2⟩ := noStar_cons h3
  obtain ⟨q3, _⟩ := noStar_cons q2
  have hd : [x, y].eraseDups.length = 2 := by
    have : (y == x) = false := by simpa using fun e => h2 e.symm
    simp [List.eraseDups_cons, List.filter, this]
  unfold swappedStores
  simp only [List.length_cons, List.length_nil, hb, bne_self_eq_false, Bool.or_false, h4, h5]
  simp [kx, ky, h1, hd, Expr.pos]
  done
def shTup : List Expr → Option (List Expr × Nat × Pos)
  | [.Tuple es k p] => some (es, k, p)
  | _ => none
theorem shTup_ok {tg : List Expr} {es : List Expr} {k : Nat} {p : Pos} (h : shTup tg = some (es, k, p)) : tg = [.Tuple es k p] := by
  unfold shTup at h
  split at h
  · cases h; rfl
  · cases h
def shPar : List Expr → Expr → Option (Str × Pos × Str × Pos × Expr × Expr)
  | [.Tuple [.Name x px, .Name y py] _ _], .Tuple [a, b] _ _ => some (x, px, y, py, a, b)
  | _, _ => none
theorem shPar_ok {tg : List Expr} {v : Expr} {x y : Str} {px py : Pos} {a b : Expr} (h : shPar tg v = some (x, px, y, py, a, b)) : ∃ kt pt k2 pt2, tg = [.Tuple [.Name x px, .Name y py] kt pt] ∧ v = .Tuple [a, b] k2 pt2 := by
  unfold shPar at h
  split at h
  · cases h; exact ⟨_, _, _, _, rfl, rfl⟩
  · cases h
def shPut : List Expr → Option (Str × Pos × Expr)
  | [.Subscript (.Name x px) ks _] => some (x, px, ks)
  | _ => none
theorem shPut_ok {tg : List Expr} {x : Str} {px : Pos} {ks : Expr} (h : shPut tg = some (x, px, ks)) : ∃ q, tg = [.Subscript (.Name x px) ks q] := by
  unfold shPut at h
  split at h
  · cases h; exact ⟨_, rfl⟩
  · cases h
def shApp : Expr → Option (Str × Pos × Str × Pos × Expr × Pos)
  | .Call (.Attribute (.Name x px) n ap) [v] [] cp => some (x, px, n, ap, v, cp)
  | _ => none
theorem shApp_ok {e : Expr} {x n : Str} {px ap cp : Pos} {v : Expr} (h : shApp e = some (x, px, n, ap, v, cp)) : e = .Call (.Attribute (.Name x px) n ap) [v] [] cp := by
  unfold shApp at h
  split at h
  · cases h; rfl
  · cases h
def shIns : Expr → Option (Str × Pos × Str × Pos × Expr × Expr × Pos)
  | .Call (.Attribute (.Name x px) n ap) [u, v] [] cp => some (x, px, n, ap, u, v, cp)
  | _ => none
theorem shIns_ok {e : Expr} {x n : Str} {px ap cp : Pos} {u v : Expr} (h : shIns e = some (x, px, n, ap, u, v, cp)) : e = .Call (.Attribute (.Name x px) n ap) [u, v] [] cp := by
  unfold shIns at h
  split at h
  · cases h; rfl
  · cases h
def shRais : Option Expr → Option Expr → Option Str
  | some (.Call (.Name x _) [.Constant (.str _) _ _] [] _), none => some x
  | _, _ => none
theorem shRais_ok {ex ca : Option Expr} {x : Str} (h : shRais ex ca = some x) : ∃ px m j q cp, ex = some (.Call (.Name x px) [.Constant (.str m) j q] [] cp) ∧ ca = none := by
  unfold shRais at h
  split at h
  · cases h; exact ⟨_, _, _, _, _, rfl, rfl⟩
  · cases h
def shH : ExceptHandler → Option (Str × Option Str × Stmt × List Stmt)
  | .ExceptHandler (some (.Name x _)) n (b0 :: su) _ => some (x, n, b0, su)
  | _ => none
theorem shH_ok {h : ExceptHandler} {x : Str} {n : Option Str} {b0 : Stmt} {su : List Stmt} (e : shH h = some (x, n, b0, su)) : ∃ px hp, h = .ExceptHandler (some (.Name x px)) n (b0 :: su) hp := by
  unfold shH at e
  split at e
  · cases e; exact ⟨_, _, rfl⟩
  · cases e
def lclO (C : Cn) : Option Nat → Option Str → Bool
  | none, none => true
  | some i, some n => isLcl C i n
  | _, _ => false
def shNameP : List Expr → Option (Str × Pos)
  | [.Name x p] => some (x, p)
  | _ => none
theorem shNameP_ok {tg : List Expr} {x : Str} {p : Pos} (h : shNameP tg = some (x, p)) : tg = [.Name x p] := by
  unfold shNameP at h
  split at h
  · cases h; rfl
  · cases h
def shRaisY : Option Expr → Option Expr → Option (Str × Expr)
  | some (.Call (.Name x _) [a] [] _), none => some (x, a)
  | _, _ => none
theorem shRaisY_ok {ex ca : Option Expr} {x : Str} {a : Expr} (h : shRaisY ex ca = some (x, a)) : ∃ px cp, ex = some (.Call (.Name x px) [a] [] cp) ∧ ca = none := by
  unfold shRaisY at h
  split at h
  · cases h; exact ⟨_, _, rfl, rfl⟩
  · cases h
/-- a comprehension stored at a name: the store is the block's own end, or not at all -/
def swOk (C : Cn) (x : Str) (px : Pos) : Expr → Bool
  | .DictComp _ _ _ scope pos => C.sc.names.lookup x != some .local || !(px.line == pos.line) || !(scope.names.any fun (n, k) => n == x && (k == .local || k == .cell))
  | .ListComp _ _ scope pos => C.sc.names.lookup x != some .local || !(px.line == pos.line) || !(scope.names.any fun (n, k) => n == x && (k == .local || k == .cell))
  | _ => false
def shFld : List Expr → Option (Str × Pos × Str × Pos)
  | [.Attribute (.Name x px) f p] => some (x, px, f, p)
  | _ => none
theorem shFld_ok {tg : List Expr} {x f : Str} {px p : Pos} (h : shFld tg = some (x, px, f, p)) : tg = [.Attribute (.Name x px) f p] := by
  unfold shFld at h
  split at h
  · cases h; rfl
  · cases h
def shPutF : List Expr → Option (Str × Pos × Str × Pos × Expr)
  | [.Subscript (.Attribute (.Name x px) f fp) ks _] => some (x, px, f, fp, ks)
  | _ => none
theorem shPutF_ok {tg : List Expr} {x f : Str} {px fp : Pos} {ks : Expr} (h : shPutF tg = some (x, px, f, fp, ks)) : ∃ q, tg = [.Subscript (.Attribute (.Name x px) f fp) ks q] := by
  unfold shPutF at h
  split at h
  · cases h; exact ⟨_, rfl⟩
  · cases h
def shAppF : Expr → Option (Str × Pos × Str × Pos × Str × Pos × Expr × Pos)
  | .Call (.Attribute (.Attribute (.Name x px) f fp) n ap) [v] [] cp => some (x, px, f, fp, n, ap, v, cp)
  | _ => none
theorem shAppF_ok {e : Expr} {x f n : Str} {px fp ap cp : Pos} {v : Expr} (h : shAppF e = some (x, px, f, fp, n, ap, v, cp)) : e = .Call (.Attribute (.Attribute (.Name x px) f fp) n ap) [v] [] cp := by
  unfold shAppF at h
  split at h
  · cases h; rfl
  · cases h
def shW : MatchCase → Option (Str × List Stmt)
  | ⟨.MatchValue (.Constant (.str w) _ _) _, none, b⟩ => some (w, b)
  | _ => none
theorem shW_ok {c : MatchCase} {w : Str} {b : List Stmt} (h : shW c = some (w, b)) : ∃ k p q, c = ⟨.MatchValue (.Constant (.str w) k p) q, none, b⟩ := by
  unfold shW at h
  split at h
  · cases h; exact ⟨_, _, _, rfl⟩
  · cases h
def shMake : Expr → Option (Str × Pos × List Expr × Pos)
  | .Call (.Name c p) args [] q => some (c, p, args, q)
  | _ => none
theorem shMake_ok {e : Expr} {c : Str} {p q : Pos} {args : List Expr} (h : shMake e = some (c, p, args, q)) : e = .Call (.Name c p) args [] q := by
  unfold shMake at h
  split at h
  · cases h; rfl
  · cases h
theorem swaps_fld {v o : Expr} {f : Str} {p : Pos} {l : Nat} {env : Env} : swapsWith v (some (.Attribute o f p)) l env = pure false := by
  cases v <;> rfl
theorem putF_pe {X : Cx} {to te : TE} {o ks : Expr} {p : Pos} (hs : ∀ l u t q, ks ≠ .Slice l u t q) (hv : PE X o to) (hk : PE X ks te) : PG X (.Subscript o ks p) (gSub to te rSetL) :=
  pg_sub hv hk set_list (fun v => by cases ks <;> first | exact absurd rfl (hs _ _ _ _) | rfl)
theorem run_makeSD {X : Cx} {CX : CXT} {k : Nat} {C f : Addr} {fd : FuncData} {ps : List Str} {sp : Sp} {E : L2.St → XK} {pins : List (Addr × Obj)} {σ : L2.St} {H : Hp} {s : Shared} {Q : VK} {us : List Value} {vs : List V} (M : Mk X.K C f) (F : FnOk X.prog X.w X.K X.mg X.base CX k f fd ps sp) (hr : Room (k + 1) X.A) (hb : Binds X.K fd ps [])
    (hx : PassesAt CX X σ (E σ)) (hxx : ∀ (H : Hp) (s : Shared) (e : Value) (s' : Shared), True) (I : Inv X pins σ H s) (r : Vals vs us)
    (h : ∀ x dx, H x = none → H dx = none → dx ≠ x → sp (.ref x :: vs) (upd (upd H dx (.own x)) x (.ins C dx [])) (fun v H2 => v = .non ∧ Q (.ref x) H2) (E σ)) :
    wpAny (model X.prog X.w) X.A (call (.ref C) us) (EP X pins σ Q) X.xe s := by
  have hq := h (s.heap.objs.size + 1) s.heap.objs.size (I.hok.fresh (Nat.le_succ _)) (I.hok.fresh (Nat.le_refl _)) (Nat.ne_of_lt (Nat.lt_succ_self _))
  have I2 := Inv.made (C := C) I
  have r2 : Vals (V.ref (s.heap.objs.size + 1) :: vs) (Value.ref (s.heap.objs.size + 1) :: us) := .cons rfl r
  have hl : (Value.ref (s.heap.objs.size + 1) :: us ++ []).length = ps.length := by
    have e := r2.length
    rw [F.len _ _ _ _ hq] at e
    rw [List.append_nil]; exact e.symm
  refine wpAny_call (make_map (f := f) I.kIn M.makes M.init (beq_iff_eq.mp M.fn) (codeAny_mono (F.run _ X.stack _ _ ⟨Value.ref (s.heap.objs.size + 1) :: us, []⟩ (Value.ref (s.heap.objs.size + 1) :: us ++ []) _ _ (E σ) (hr.make C us [])
    (I2.env0.make C us []) (hb _ (Value.ref (s.heap.objs.size + 1) :: us) I2.kIn hl) (by rw [List.append_nil]; exact r2) hq) fun r s' hq' => ?_))
  cases r with
  | error e => exact hx pins _ _ e s' I2 hq'
  | ok fl =>
    cases fl with
    | ret u =>
      obtain ⟨v, H', I3, rv, ev, q3⟩ := I2.after hq'
      subst ev
      exact ⟨rv, ⟨V.ref (s.heap.objs.size + 1), H', I3, rfl, q3⟩⟩
    | next => exact False.elim hq'
    | brk => exact False.elim hq'
    | cont => exact False.elim hq'
theorem pe_makeSD {X : Cx} {CX : CXT} {k : Nat} {C f : Addr} {fd : FuncData} {ps : List Str} {sp : Sp} {E : L2.St → XK} {x : Str} {p pos : Pos} {args : List Expr} {t : TA} (M : Mk X.K C f) (F : FnOk X.prog X.w X.K X.mg X.base CX k f fd ps sp) (hr : Room (k + 1) X.A) (hg : Gl X x) (hm : X.mg x = some (.ref C)) (hb : Binds X.K fd ps []) (hx : ∀ σ, PassesAt CX X σ (E σ))
    (ha : PA X args t) (h0 : args = [] → ∀ σ H Q, t σ H Q → Q [] H) (hdb : (x == ("__debug__" : Str)) = false) (hn : noStar args = true) : PE X (.Call (.Name x p) args [] pos) (tMakeSD C sp E t) := by
  refine ⟨fun pins s σ H Q I h => ?_⟩
  cases args with
  | nil =>
    refine wpAny_Call_Name_kw (ld_glob I hg hm ?_ hdb)
    exact PySem.W.callWith_K0 I.kIn M.kp (run_makeSD (us := []) M F hr hb (hx σ) (fun _ _ _ _ => trivial) I .nil (h0 rfl σ H _ h))
  | cons e es =>
    obtain ⟨hs1, hs2⟩ := noStar_cons hn
    refine wpAny_Call_Name_kw (ld_glob I hg hm ?_ hdb)
    refine PySem.W.callWith_K (h₀ := X.base) I.ok.mod.kin M.kp (thn (ha.run pos pins s σ H _ I h) fun us s1 ⟨vs, H1, I1, r, q⟩ => ⟨I1.kIn, ?_⟩) (star_of hs1) (noStar_any hs2)
    exact run_makeSD M F hr hb (hx σ) (fun _ _ _ _ => trivial) I1 r q
mutual
def chkS (C : Cn) : Sm → Stmt → Bool
  | .setF i f e, .Assign tg v _ => (match shFld tg with | some (x, _, n, _) => f == n && isLoc C i x && chkE C e v | none => false)
  | .putF i f k v, .Assign tg vs _ => (match shPutF tg with | some (x, _, n, _, ks) => f == n && isLoc C i x && noComp vs && chkE C k ks && chkE C v vs | none => false)
  | .augF i f o e, .AugAssign (.Attribute (.Name x _) n _) op v _ => f == n && augO op == some o && isLoc C i x && chkE C e v
  | .appF i f e, .Expr v _ => (match shAppF v with | some (x, _, n, _, m, ap, v, cp) => f == n && m == ("append" : Str) && ap.endLine == cp.line && isLoc C i x && noStar [v] && chkE C e v | none => false)
  | .make i c f xs, .Assign tg v _ => (match shNameP tg, shMake v with | some (x, _), some (n, _, args, _) => c == n && isSto C i x && C.calm && isGlo C c && C.fk.contains (f, c) && noStar args && chkXs C xs args | _, _ => false)
  | .set i e, .Assign tg v p => (match shNameP tg with | some (x, px) => isSto C i x && (noComp v || swOk C x px v) && chkE C e v | none => false)
  | .unp t e, .Assign tg v _ => (match shTup tg with | some (es, k, q) => C.calm && noTupD v && noComp v && chkT C t (.Tuple es k q) && chkE C e v | none => false)
  | .par i j a b, .Assign tg v _ => (match shPar tg v with | some (x, px, y, py, a', b') => C.calm && isLcl C i x && isLcl C j y && i != j && parC px py x y a' b' && chkE C a a' && chkE C b b' | none => false)
  | .put i k v, .Assign tg vs _ => (match shPut tg with | some (x, _, ks) => isLoc C i x && noComp vs && chkE C k ks && chkE C v vs | none => false)
  | .aug i o e, .AugAssign (.Name x _) op v _ => augO op == some o && isSto C i x && chkE C e v
  | .app i e, .Expr v _ => (match shApp v with | some (x, _, n, ap, v, cp) => n == ("append" : Str) && ap.endLine == cp.line && isLoc C i x && noStar [v] && chkE C e v | none => false)
  | .ins i k e, .Expr v _ => (match shIns v with | some (x, _, n, ap, u, v, cp) => n == ("insert" : Str) && ap.endLine == cp.line && isLoc C i x && noStar [u, v] && chkE C k u && chkE C e v | none => false)
  | .ext i e, .Expr v _ => (match shApp v with | some (x, _, n, ap, v, cp) => n == ("extend" : Str) && ap.endLine == cp.line && isLoc C i x && noStar [v] && chkE C e v | none => false)
  | .ex e, .Expr v _ => noComp v && chkE C e v
  | .pass, .Expr (.Constant (.str _) _ _) _ => true
  | .pass, .Pass _ => true
  | .cont, .Continue _ => true
  | .brk, .Break _ => true
  | .forr t it b, .For tg iter body [] _ => C.calm && chkT C t tg && chkIt C it tg iter && chkSs C b body
  | .whil c b, .While t body [] _ => C.calm && chkE C c t && chkSs C b body
  | .iff c a b, .If t x y _ => chkE C c t && chkSs C a x && chkSs C b y
  | .ret e, .Return (some v) _ => (match e with | .loc i => !(C.io && i == 0) | .fld _ _ => false | _ => true) && chkE C e v
  | .retN, .Return none _ => true
  | .rais c .no, .Raise ex ca _ => shRais ex ca == some c && isGlo C c && C.calm && C.xs.contains c && fldOf c == none
  | .rais c (.yes e), .Raise ex ca _ => (match shRaisY ex ca with | some (x, a) => c == x && isGlo C c && C.calm && C.xs.contains c && (fldOf c).isSome && noStar [a] && chkE C e a | none => false)
  | .mat e h, .Match v cs _ => chkE C e v && chkW C h cs
  | .tri b hs, .Try body hds o f _ => o.isEmpty && f.isEmpty && !hds.isEmpty && C.calm && chkSs C b body && chkH C hs hds
  | _, _ => false
def chkSs (C : Cn) : Sms → List Stmt → Bool
  | .nil, [] => true
  | .cons a r, x :: xs => chkS C a x && chkSs C r xs
  | _, _ => false
def chkW (C : Cn) : Hds → List MatchCase → Bool
  | .nil, [] => true
  | .cons y none b r, c :: cs => (match shW c with | some (w, b') => w == y && chkSs C b b' | none => false) && chkW C r cs
  | _, _ => false
def chkH (C : Cn) : Hds → List ExceptHandler → Bool
  | .nil, [] => true
  | .cons y i hb r, h :: hds => (match shH h with | some (x, n, b0, su) => y == x && isGlo C x && C.xs.contains y && lclO C i n && chkSs { C with calm := false } hb (b0 :: su) | none => false) && chkH C r hds
  | _, _ => false
end
/-- the errors' classes are what they are said to be -/
structure XOk (E : En) : Prop where
  mg : ∀ c ∈ E.w.xs, E.mg c = some (.ref (E.w.ca c))
  kp : ∀ c ∈ E.w.xs, PySem.W.keepIn E.w.K (.ref (E.w.ca c)) = true
  ex : ∀ c ∈ E.w.xs, fldOf c = none → PySem.W.excIn E.w.K (E.w.ca c) [.type "ValueError", .type "Exception", .type "BaseException", .type "object"] "ValueError.__new__" = true
  sb : ∀ c ∈ E.w.xs, PySem.W.subIn E.w.K (.ref (E.w.ca c)) (.type "BaseException") = some true
  ty : ∀ c ∈ E.w.xs, PySem.W.typeIn E.w.K (.ref (E.w.ca c)) = some (.type "type")
  ab : ∀ c ∈ E.w.xs, ∀ d ∈ E.w.xs, PySem.W.exmOne E.w.K (.ref (E.w.ca c)) (.ref (E.w.ca d)) = some (above c d)
/-- the classes with a field -/
structure XiOk (E : En) : Prop where
  er : ∀ c ∈ E.w.xs, ∀ f, fldOf c = some f → ∃ fd fI, fd.s = f ∧ ErT E.w.K fd (E.w.ca c) fI
structure GoodS (E : En) (C : Cn) (X : Cx) (cx : Cxs) (W : WX) (G : Gs) : Prop where
  g : Good E C X cx W
  io : C.io = G.v0.isSome
  ow : G.v0 = none → G.ow = []
  po : PassesOwn (model X.prog X.w) X.A X.env X.xe
  hs : X.stack = X.env :: X.outer
  hf : X.env.frame = some X.env.locals
  kd : X.env.scope.kind = .function
section
variable {E : En} {C : Cn} {X : Cx} {cx : Cxs} {W : WX} {G : Gs}
theorem GoodS.nz (g : GoodS E C X cx W G) {i : Nat} (h : C.io = true → i ≠ 0) : G.v0.isSome = true → i ≠ 0 := fun e => h (by rw [g.io]; exact e)
theorem GoodS.nv (g : GoodS E C X cx W G) : ∀ v, G.v0 = some v → C.io = true := fun v e => by rw [g.io, e]; rfl
/-- x = {k: v for ..}, stored at the block's own end -/
theorem ps_setDc {i : Nat} {y : Str} {py : Pos} {kx vx tg iter : Expr} {scope : Scope} {own : List (Str × Nat)} {pos spos : Pos} {wi : TI} {g : TG} {tt : TT} {tk tv : TE} (hc : X.calm = true) (hN : X.N.Nodup) (hy : X.N[i]? = some y) (hyl : X.env.scope.names.lookup y = some .local)
    (hsw : swapsWith (.DictComp kx vx [⟨tg, iter, [], 0⟩] scope pos) (some (.Name y py)) spos.line X.env = pure true) (hi : PI X tg iter wi) (ok : BlkOk X.N X.env.scope scope own)
    (hg : ∀ (s : Shared) (H : Hp) (C : Addr) (cl : List (Str × Addr)) (fp : List Addr), PG (X.blk s H scope (compEnvC scope cl C X.env) fp) tg g) (ht : ∀ (s : Shared) (H : Hp) (C : Addr) (cl : List (Str × Addr)) (fp : List Addr), PTs (X.blk s H scope (compEnvC scope cl C X.env) fp) [] tt)
    (hk : ∀ (s : Shared) (H : Hp) (C : Addr) (cl : List (Str × Addr)) (fp : List Addr), PE (X.blk s H scope (compEnvC scope cl C X.env) fp) kx tk) (he : ∀ (s : Shared) (H : Hp) (C : Addr) (cl : List (Str × Addr)) (fp : List Addr), PE (X.blk s H scope (compEnvC scope cl C X.env) fp) vx tv) (hs : ∀ x, foldedSetIterable iter X.env x = pure x) :
    PS X (.Assign [.Name y py] (.DictComp kx vx [⟨tg, iter, [], 0⟩] scope pos) spos) (tAsg (tDc wi g tt tk tv (own.map (·.2))) (gName i)) := by
  refine ⟨fun pins s σ H D I h => ?_⟩
  rw [exec_Assign_Name_used _ _ _ _ hsw]
  have core := dc_core (Qf := fun _ s' => SP X pins D .next s') (use := some (assign (.Name y py) X.env)) (pos := pos) (pos' := firstIterPos [⟨tg, iter, [], 0⟩] pos) (Q := fun x H1 => gName i x σ H1 D.nx) hc hN I hi ok hg ht hk he hs h fun L C s' m H' I' q hn f => by
    show wpAny _ _ (assign (.Name y py) X.env (.ref L)) _ _ _
    refine wpAny_assign_Name (store_ok2 (v := V.ref L) I' hN hy (.inl hyl) rfl (fun s2 I2 hsb => ?_) (.inr hyl))
    obtain ⟨a, sb, ha⟩ := hsb
    obtain ⟨g0, g1, g2, g3, g4, g5⟩ := f
    have ne : C ≠ a := fun e => ha.elim (fun z => g1 (e.trans z)) fun z => g4 y a z e.symm
    exact ⟨m, hn.sameBut sb ne, fun h3 sb3 => ⟨_, H', I2.turned (t' := s2.toks) (fun b o hb e => (sb3.2 b hb).trans e) g0 g1 g3 g4 g5, q⟩⟩
  refine wpAny_bind (wpAny_standAt (wpAny_bind ?_))
  show wpAny _ X.A (do let _ ← comprehension (.DictComp kx vx [⟨tg, iter, [], 0⟩] scope pos) scope X.env (firstIterPos [⟨tg, iter, [], 0⟩] pos) newDict false (eval iter X.env) (some (assign (.Name y py) X.env))) _ _ s
  exact wpAny_bind (thn core fun _ s' hq => wpAny_pure (wpAny_pure hq))
theorem set_dc (k : EnOk E) (fo : FnsOk E) (g : Good E C X cx W) {i : Nat} {vs : List Nat} {t : Tg} {it : IL.It} {kk e : Ex} {y : Str} {py p : Pos} {v : Expr} (h : chkE C (.dct vs t it kk e) v = true) (hy : X.N[i]? = some y) (hyl : X.env.scope.names.lookup y = some .local) (hsw : swapsWith v (some (.Name y py)) p.line X.env = pure true) : PS X (.Assign [.Name y py] v p) (tAsg (tE E cx W (.dct vs t it kk e)) (gName i)) := by
  simp only [chkE] at h
  split at h
  · rename_i kx vx tg iter scope pos hsh
    have hsh := shDct_ok hsh
    subst hsh
    simp only [Bool.and_eq_true] at h
    obtain ⟨⟨⟨⟨⟨⟨h0, h1⟩, h2⟩, h3⟩, h4⟩, h5⟩, h6⟩ := h
    have ok : BlkOk X.N X.env.scope scope (ownV C vs) := by rw [g.N, g.sc]; exact blkOk_by h1
    have gb := fun s H c cl fp => g.blk h0 ok (s := s) (H := H) (c := c) (cl := cl) (fp := fp)
    have := ps_setDc (tk := tE E cx WF kk) (tv := tE E cx WF e) (g := tG E cx t) (tt := tYes) (by rw [g.calm]; exact h0) (by rw [g.N]; exact g.nd) hy hyl hsw (snd_it k fo g h3) ok (fun s H c cl fp => snd_g (gb s H c cl fp) h0 h4) (fun s H c cl fp => pts_nil) (fun s H c cl fp => (snd_e k fo (gb s H c cl fp) h5).v) (fun s H c cl fp => (snd_e k fo (gb s H c cl fp) h6).v) (folded_pure (noSet h3))
    rw [ownV_snd] at this
    exact ⟨fun pins s σ H D I r => this.run pins s σ H D I (dct_ok (Tg.sub_ok h2) r)⟩
  · cases h
theorem set_lc (k : EnOk E) (fo : FnsOk E) (g : Good E C X cx W) {i : Nat} {e : Ex} {y : Str} {py p : Pos} {v : Expr} (h : chkE C e v = true) (hy : X.N[i]? = some y) (hyl : X.env.scope.names.lookup y = some .local) (hsw : swapsWith v (some (.Name y py)) p.line X.env = pure true) : PS X (.Assign [.Name y py] v p) (tAsg (tE E cx W e) (gName i)) := by
  cases v with
  | ListComp elt gs scope pos =>
    cases e with
    | lc vs t it c e =>
      simp only [chkE] at h
      split at h
      · rename_i elt' tg iter ifs scope' pos' hsh
        have hsh := shLc_ok hsh
        cases hsh
        simp only [Bool.and_eq_true] at h
        obtain ⟨⟨⟨⟨⟨⟨h0, h1⟩, h2⟩, h3⟩, h4⟩, h5⟩, h6⟩ := h
        have ok : BlkOk X.N X.env.scope scope (ownV C vs) := by rw [g.N, g.sc]; exact blkOk_by h1
        have gb := fun s H c cl fp => g.blk h0 ok (s := s) (H := H) (c := c) (cl := cl) (fp := fp)
        have := ps_setLc (te := tE E cx WF e) (g := tG E cx t) (tt := tCn E cx WF c) (by rw [g.calm]; exact h0) (by rw [g.N]; exact g.nd) hy hyl hsw (snd_it k fo g h3) ok (fun s H c cl fp => snd_g (gb s H c cl fp) h0 h4) (fun s H c cl fp => snd_c k fo (gb s H c cl fp) h5) (fun s H c cl fp => (snd_e k fo (gb s H c cl fp) h6).v) (folded_pure (noSet h3))
        rw [ownV_snd] at this
        exact ⟨fun pins s σ H D I r => this.run pins s σ H D I (lc_ok (Tg.sub_ok h2) r)⟩
      · cases h
    | lcO vs t i c e =>
      simp only [chkE] at h
      split at h
      · rename_i elt' tg x px ifs scope' pos' hsh
        have hsh := shLc_ok hsh
        cases hsh
        simp only [Bool.and_eq_true] at h
        obtain ⟨⟨⟨⟨⟨⟨h0, h1⟩, h2⟩, h3⟩, h4⟩, h5⟩, h6⟩ := h
        have ok : BlkOk X.N X.env.scope scope (ownV C vs) := by rw [g.N, g.sc]; exact blkOk_by h1
        have gb := fun s H c cl fp => g.blk h0 ok (s := s) (H := H) (c := c) (cl := cl) (fp := fp)
        obtain ⟨v1, v2, v3, v4⟩ := g.vis h3
        have := ps_setLc (te := tE E cx WF e) (g := tG E cx t) (tt := tCn E cx WF c) (by rw [g.calm]; exact h0) (by rw [g.N]; exact g.nd) hy hyl hsw (pi_seq (pe_var (pos := px) v1 v2 v3 v4)) ok (fun s H c cl fp => snd_g (gb s H c cl fp) h0 h4) (fun s H c cl fp => snd_c k fo (gb s H c cl fp) h5) (fun s H c cl fp => (snd_e k fo (gb s H c cl fp) h6).v) (folded_pure (e := .Name x px) (fun _ _ _ e => by cases e))
        rw [ownV_snd] at this
        exact ⟨fun pins s σ H D I r => this.run pins s σ H D I (lcO_ok g.K (Tg.sub_ok h2) r)⟩
      · cases h
    | lc2 vs vs1 t it t1 it1 e =>
      simp only [chkE] at h
      split at h
      · rename_i elt' tg iter tg1 iter1 scope' pos' hsh
        have hsh := shLc2_ok hsh
        cases hsh
        simp only [Bool.and_eq_true, List.all_eq_true] at h
        obtain ⟨⟨⟨⟨⟨⟨⟨⟨⟨h0, h1⟩, h2⟩, h3⟩, h4⟩, h5⟩, h6⟩, h7⟩, h8⟩, h9⟩ := h
        have ok : BlkOk X.N X.env.scope scope (ownV C vs) := by rw [g.N, g.sc]; exact blkOk_by h1
        have gb := fun s H c cl fp => g.blk h0 ok (s := s) (H := H) (c := c) (cl := cl) (fp := fp)
        have hv : ∀ j, j ∈ vs1 → j ∈ vs := fun j hj => by simpa using h2 j hj
        have := ps_setLc2 (te := tE E cx WF e) (g := tG E cx t) (g1 := tG E cx t1) (tt := tYes) (tt1 := tYes) (wi1 := tI E cx WF it1) (vs1 := vs1) (by rw [g.calm]; exact h0) (by rw [g.N]; exact g.nd) hy hyl hsw (snd_it k fo g h5) ok (fun j hj => by rw [ownV_snd]; exact hv j hj)
          (fun s H c cl fp => snd_g (gb s H c cl fp) h0 h6) (fun s H c cl fp => pts_nil) (fun s H c cl fp => snd_it k fo (gb s H c cl fp) h7) (fun s H c cl fp => snd_g (gb s H c cl fp) h0 h8) (fun s H c cl fp => pts_nil) (fun s H c cl fp => (snd_e k fo (gb s H c cl fp) h9).v) (folded_pure (noSet h5)) (fun env => folded_pure (noSet h7))
        rw [ownV_snd] at this
        exact ⟨fun pins s σ H D I r => this.run pins s σ H D I (lc2_ok (Tg.sub_ok h3) (Tg.sub_ok h4) hv r)⟩
      · cases h
    | _ => simp [chkE, shDct] at h
  | DictComp kx vx gs scope pos =>
    cases e with
    | dct vs t it kk e => exact set_dc k fo g h hy hyl hsw
    | _ => simp [chkE, shLc, shLc2] at h
  | _ => first | (have := hsw.symm.trans (swaps_none rfl); exact absurd this (by intro q; cases q)) | exact absurd h (by cases e <;> simp [chkE, shLc, shLc2, shDct])
theorem sw_falseD {kx vx : Expr} {gs : List Comprehension} {scope : Scope} {pos px : Pos} {x : Str} {l : Nat} {env : Env} (h : (env.scope.names.lookup x != some .local || !(px.line == pos.line) || (scope.names.any fun (n, k) => n == x && (k == .local || k == .cell))) = true) :
    swapsWith (.DictComp kx vx gs scope pos) (some (.Name x px)) l env = pure false := by
  have e : swapsWith (.DictComp kx vx gs scope pos) (some (.Name x px)) l env = pure (env.blockKind == .function && env.kindOf x == some .local && px.line == pos.line && !(scope.names.any fun (n, k) => n == x && (k == .local || k == .cell))) := rfl
  rw [e]
  congr 1
  have ek : env.kindOf x = env.scope.names.lookup x := rfl
  rw [ek]
  simp only [Bool.or_eq_true, bne_iff_ne, Bool.not_eq_true'] at h
  rcases h with (h | h) | h
  · have : (env.scope.names.lookup x == some NameKind.local) = false := by simpa using h
    rw [this]; simp
  · rw [h]; simp
  · rw [h]; simp
theorem sw_trueD {kx vx : Expr} {gs : List Comprehension} {scope : Scope} {pos py : Pos} {y : Str} {l : Nat} {env : Env} (hk : env.scope.kind = .function) (hy : env.scope.names.lookup y = some .local) (hl : (py.line == pos.line) = true)
    (ha : (scope.names.any fun (n, k) => n == y && (k == .local || k == .cell)) = false) : swapsWith (.DictComp kx vx gs scope pos) (some (.Name y py)) l env = pure true := by
  have ek : env.kindOf y = env.scope.names.lookup y := rfl
  have hb : env.blockKind = .function := by unfold Env.blockKind; rw [hk]; rfl
  have e : swapsWith (.DictComp kx vx gs scope pos) (some (.Name y py)) l env = pure (env.blockKind == .function && env.kindOf y == some .local && py.line == pos.line && !(scope.names.any fun (n, k) => n == y && (k == .local || k == .cell))) := rfl
  rw [e, ek, hy, hb, hl, ha]; rfl
theorem sw_false {elt : Expr} {gs : List Comprehension} {scope : Scope} {pos px : Pos} {x : Str} {l : Nat} {env : Env} (h : (env.scope.names.lookup x != some .local || !(px.line == pos.line) || (scope.names.any fun (n, k) => n == x && (k == .local || k == .cell))) = true) :
    swapsWith (.ListComp elt gs scope pos) (some (.Name x px)) l env = pure false := by
  have e : swapsWith (.ListComp elt gs scope pos) (some (.Name x px)) l env = pure (env.blockKind == .function && env.kindOf x == some .local && px.line == pos.line && !(scope.names.any fun (n, k) => n == x && (k == .local || k == .cell))) := rfl
  rw [e]
  congr 1
  have ek : env.kindOf x = env.scope.names.lookup x := rfl
  rw [ek]
  simp only [Bool.or_eq_true, bne_iff_ne, Bool.not_eq_true'] at h
  rcases h with (h | h) | h
  · have : (env.scope.names.lookup x == some NameKind.local) = false := by simpa using h
    rw [this]; simp
  · rw [h]; simp
  · rw [h]; simp
theorem set_ps (k : EnOk E) (fo : FnsOk E) (g : GoodS E C X cx W G) {i : Nat} {e : Ex} {x : Str} {px p : Pos} {v : Expr} (h1 : isSto C i x = true) (h2 : (noComp v || swOk C x px v) = true) (h3 : chkE C e v = true) : PS X (.Assign [.Name x px] v p) (tAsg (tE E cx W e) (gName i)) := by
  obtain ⟨s1, s2, s3, s4⟩ := g.g.sto h1
  have hN : X.N.Nodup := by rw [g.g.N]; exact g.g.nd
  have plain (hs : swapsWith v (some (.Name x px)) p.line X.env = pure false) := ps_set (pos := p) hN s1 s2 (snd_e k fo g.g h3).v hs s3
  by_cases hnc : noComp v = true
  · exact plain (swaps_none hnc)
  rw [Bool.not_eq_true] at hnc
  rw [hnc, Bool.false_or] at h2
  cases v with
  | ListComp elt gs scope pos =>
    simp only [swOk] at h2
    by_cases hsw : (X.env.scope.names.lookup x != some .local || !(px.line == pos.line) || (scope.names.any fun (n, k) => n == x && (k == .local || k == .cell))) = true
    · exact plain (sw_false hsw)
    · simp only [Bool.or_eq_true, bne_iff_ne, Bool.not_eq_true', not_or, Classical.not_not, Bool.not_eq_false, Bool.not_eq_true] at hsw
      obtain ⟨⟨hl, hp⟩, ha⟩ := hsw
      have hw := sw_true (elt := elt) (gs := gs) (l := p.line) g.kd hl hp ha
      exact set_lc k fo g.g h3 s1 hl hw
  | DictComp kx vx gs scope pos =>
    simp only [swOk] at h2
    by_cases hsw : (X.env.scope.names.lookup x != some .local || !(px.line == pos.line) || (scope.names.any fun (n, k) => n == x && (k == .local || k == .cell))) = true
    · exact plain (sw_falseD hsw)
    · simp only [Bool.or_eq_true, bne_iff_ne, Bool.not_eq_true', not_or, Classical.not_not, Bool.not_eq_false, Bool.not_eq_true] at hsw
      obtain ⟨⟨hl, hp⟩, ha⟩ := hsw
      have hw := sw_trueD (kx := kx) (vx := vx) (gs := gs) (l := p.line) g.kd hl hp ha
      cases e with
      | dct vs t it kk e => exact set_dc k fo g.g h3 s1 hl hw
      | _ => simp [chkE, shLc, shLc2] at h3
  | _ => simp [swOk] at h2
theorem rais_ok {c : Str} {σ : L2.St} {H : Hp} {Dn : Ends} (hc : c ∈ E.w.xs) (h : tS E cx W G (.rais c .no) Dn σ H) : W (.ref (E.w.ca c)) none σ H := by
  obtain ⟨s, F, own, rs, i, p⟩ := h
  exact p σ F H own none (.refl _) i rs (.no hc none)
theorem Good.tr (g : Good E C X cx W) (hc : C.calm = true) {pn : List (Addr × Obj)} {xe : Value → Shared → Prop} {W' : WX} (tk : Takes (X.tr pn xe) W') : Good E C (X.tr pn xe) cx W' :=
  ⟨g.P, g.wd, g.K, g.mg, g.base, g.N, g.nd, g.sc, g.calm, g.fs, g.fi, g.xs, g.gn, g.fm, g.fk, tk, g.room, g.un, g.fn, g.nx, .inl (g.nx hc)⟩
theorem Good.su (g : Good E C X [] W) {a : Addr} {oe : Obj} {pn : List (Addr × Obj)} {c : Str} {dd : Option Addr} (hz : Zc (.ref (E.w.ca c)) dd oe) (hf : ∃ vs, oe.data = .fields vs) (hc : c ∈ E.w.xs) : Good E { C with calm := false } (X.suite a ((a, oe) :: pn)) [(a, c, dd)] (fun _ _ _ _ => False) :=
  ⟨g.P, g.wd, g.K, g.mg, g.base, g.N, g.nd, g.sc, rfl, g.fs, g.fi, g.xs, g.gn, g.fm, g.fk, takesF, fun z => (Bool.false_ne_true z).elim, g.un, g.fn, fun z => (Bool.false_ne_true z).elim, .inr ⟨X, a, oe, pn, c, dd, rfl, hz, hf, rfl, hc⟩⟩
theorem Good.su0 (g : Good E C X [] W) {a : Addr} {pn : List (Addr × Obj)} : Good E { C with calm := false } (X.suite a pn) [] (fun _ _ _ _ => False) :=
  ⟨g.P, g.wd, g.K, g.mg, g.base, g.N, g.nd, g.sc, rfl, g.fs, g.fi, g.xs, g.gn, g.fm, g.fk, takesF, fun z => (Bool.false_ne_true z).elim, g.un, g.fn, fun z => (Bool.false_ne_true z).elim, .inl rfl⟩
/-- raise c(e) -/
theorem raisY_ok {c f : Str} {fd : Fd} {e : Ex} {σ : L2.St} {H : Hp} {Dn : Ends} (hf : E.w.xf c = some f) (hfd : fd.s = f) (hc : c ∈ E.w.xs) (h : tS E cx W G (.rais c (.yes e)) Dn σ H) : tMkLow fd (E.w.ca c) (tE E cx W e) σ H fun cls d H' => W cls d σ H' := by
  obtain ⟨s, F, own, rs, i, p⟩ := h
  have p' : PostS E.w cx W G F ((evE E.gl E.call e s).bind fun x s => .ex c (some x.1) s) Dn := p
  refine ⟨s, F, own, rs, p'.bnd i fun x s1 F1 H1 own1 f1 rs1 p1 v hv d hd => ?_⟩
  obtain ⟨F2, sf, f2, rs2, hr⟩ := hv.frz f1 rs1
  have ps : Pst F2 H1 (upd F2 d (.xd [(fd.s, v)])) (upd H1 d (.xd [(fd.s, v)])) := Pst.newF rs2.fh hd
  refine p1 σ _ _ own1 (some d) (sf.trans ps.ff) ((i.step f2).step (nz := true) (Frm.pst ps)) (rs2.pst ps) (.yes hc hf (by rw [hfd]; exact upd_same) (hr.mono ps.ff))
theorem RS.toCx {w : Wo} {s : Sg} {F : Hp} {H : Hp} {σ : L2.St} {own : Nat → List Addr} (rs : RS w [] s F σ H own) : RS w cx s F σ H own :=
  ⟨rs.len, rs.fh, fun i x e => by obtain ⟨o, e1, r⟩ := rs.sl i x e; exact ⟨o, e1, r.toCx⟩, rs.out, rs.nd, rs.dj⟩
theorem RS.noCx {w : Wo} {s : Sg} {F : Hp} {H : Hp} {σ : L2.St} {own : Nat → List Addr} (rs : RS w cx s F σ H own) (h : s.all Slot.noEx = true) : RS w [] s F σ H own :=
  ⟨rs.len, rs.fh, fun i x e => by
    obtain ⟨o, e1, r⟩ := rs.sl i x e
    refine ⟨o, e1, r.nocx fun c y z => ?_⟩
    subst z
    have := List.all_eq_true.mp h _ (List.mem_of_getElem? e)
    simp [Slot.noEx] at this, rs.out, rs.nd, rs.dj⟩
/-- a slot forgotten -/
theorem RS.drop {w : Wo} {s : Sg} {F : Hp} {H : Hp} {σ : L2.St} {own : Nat → List Addr} (rs : RS w cx s F σ H own) (i : Nat) : RS w cx (s.set i .un) F (σ.set i none) H (ownSet own i []) := by
  by_cases hi : i < s.length
  · exact rs.put (o := none) hi (List.length_set ..) (by rw [List.getElem?_set_self (by rw [← rs.len]; exact hi)]) (fun j hj => List.getElem?_set_ne (Ne.symm hj)) (.un _) List.nodup_nil (fun a ha => nomatch ha)
  · have e1 : s.set i .un = s := List.set_eq_of_length_le (by omega)
    have e2 : σ.set i none = σ := List.set_eq_of_length_le (by rw [← rs.len]; omega)
    have e3 : ownSet own i [] = own := by
      funext j
      unfold ownSet
      split
      · rename_i h; subst h; exact (rs.out j (by omega)).symm
      · rfl
    rw [e1, e2, e3]; exact rs
theorem own_drop {own : Nat → List Addr} {i j : Nat} {a : Addr} (h : a ∈ ownSet own i [] j) : a ∈ own j := by
  unfold ownSet at h
  split at h
  · cases h
  · exact h
/-- the clauses of a try -/
def hdOk (E : En) (G : Gs) : Hds → Prop
  | .nil => True
  | .cons y i _ r => y ∈ E.w.xs ∧ (∀ j, i = some j → G.v0.isSome = true → j ≠ 0) ∧ hdOk E G r
def cxH (a : Addr) (c : Str) (d : Option Addr) : Option Nat → Cxs
  | none => []
  | some _ => [(a, c, d)]
def clsOf (E : En) (G : Gs) : Hds → List Cl
  | .nil => []
  | .cons y i hb r => ⟨.ref (E.w.ca y), i, fun a cls d Dn σ H => ∃ c, cls = .ref (E.w.ca c) ∧ c ∈ E.w.xs ∧ tSs E (cxH a c d i) (fun _ _ _ _ => False) G hb Dn σ H⟩ :: clsOf E G r
theorem cls_ok {K : PySem.W.Frag} (hK : E.w.K = K) (xo : XOk E) {c : Str} {x : Option D} {s : Sg} {Dn : Ends} {σ : L2.St} {F H : Hp} {own : Nat → List Addr} {dd : Option Addr} (hc : c ∈ E.w.xs) (ib : Inb G σ F H own) (rs : RS E.w [] s F σ H own) (hx : ExD E.w F c x dd)
    (out : ∀ {W' : WX}, W' = W → PostS E.w [] W G F (.ex c x s) Dn → W' (.ref (E.w.ca c)) dd σ H) : ∀ {hs : Hds}, hdOk E G hs → PostS E.w [] W G F (evH E.gl E.call hs c x s) Dn → wCl K W Dn (clsOf E G hs) (.ref (E.w.ca c)) dd σ H
  | .nil, _, p => out rfl p
  | .cons y i hb r, hy, p => by
    have ab := xo.ab c hc y hy.1
    rw [hK] at ab
    cases e : above c y with
    | false =>
      rw [e] at ab
      refine .inr ⟨ab, cls_ok hK xo hc ib rs hx out hy.2.2 ?_⟩
      cases i <;> simpa only [evH, e, Bool.false_eq_true, if_false] using p
    | true =>
      rw [e] at ab
      refine .inl ⟨ab, fun a ha => ⟨c, rfl, hc, ?_⟩⟩
      cases i with
      | none =>
        simp only [evH, e, if_true] at p
        refine ⟨s, F, own, rs, ib, ?_⟩
        revert p
        generalize evMs E.gl E.call hb s = r
        intro p
        cases r with
        | bad => exact p
        | ex c x s2 => exact p.elim
        | ok f s2 => cases f <;> exact p
      | some i =>
        simp only [evH, e, if_true] at p
        have nz := hy.2.1 i rfl
        have hv0 : ∀ (τ : L2.St) (o : Option V) (v : V), G.v0 = some v → (τ.set i o)[0]? = τ[0]? := fun τ o v e => List.getElem?_set_ne (nz (by rw [e]; rfl))
        unfold setS at p
        cases e0 : s[i]? with
        | none => rw [e0] at p; exact p.elim
        | some z =>
          rw [e0] at p
          simp only at p
          cases hp : z.pinned with
          | true => rw [hp] at p; exact p.elim
          | false =>
            rw [hp] at p
            simp only [Bool.false_eq_true, if_false] at p
            have hi : i < s.length := (List.getElem?_eq_some_iff.mp e0).1
            have rs1 : RS E.w [(a, c, dd)] s F σ H own := rs.toCx
            have hsl : SlotR E.w [(a, c, dd)] F H (.exn c x) (some (.ref a)) [] := by
              cases hx with
              | no _ _ => exact .exn List.mem_cons_self
              | yes _ hf q' r => exact .exnD List.mem_cons_self hf q' r
            have rs2 := rs1.put (i := i) (o := some (.ref a)) (σ' := σ.set i (some (.ref a))) hi (List.length_set ..) (by rw [List.getElem?_set_self (by rw [← rs1.len]; exact hi)]) (fun j hj => List.getElem?_set_ne (Ne.symm hj)) hsl List.nodup_nil (fun b hb => nomatch hb)
            have i2 : Inb G (σ.set i (some (.ref a))) F H (ownSet own i []) := ib.less (fun j b hb => own_drop hb) fun v e => hv0 _ _ v e
            refine ⟨_, F, _, rs2, i2, ?_⟩
            revert p
            generalize evMs E.gl E.call hb (s.set i (.exn c x)) = r
            intro p2
            cases r with
            | bad => exact p2
            | ex c x s2 => exact p2.elim
            | ok f s2 =>
              simp only at p2
              split at p2
              · rename_i hall
                have go : ∀ {σ3 : L2.St} {F3 H3 : Hp} {own3 : Nat → List Addr}, Inb G σ3 F3 H3 own3 → RS E.w [(a, c, dd)] s2 F3 σ3 H3 own3 → Inb G (σ3.set i none) F3 H3 (ownSet own3 i []) ∧ RS E.w [] (s2.set i .un) F3 (σ3.set i none) H3 (ownSet own3 i []) := fun ib3 rs3 =>
                  ⟨ib3.less (fun j b hb => own_drop hb) fun v e => hv0 _ _ v e, (rs3.drop i).noCx hall⟩
                cases f with
                | nx => exact fun σ3 F3 H3 own3 sf3 ib3 rs3 => p2 _ F3 H3 _ sf3 (go ib3 rs3).1 (go ib3 rs3).2
                | bk => exact fun σ3 F3 H3 own3 sf3 ib3 rs3 => p2 _ F3 H3 _ sf3 (go ib3 rs3).1 (go ib3 rs3).2
                | ct => exact fun σ3 F3 H3 own3 sf3 ib3 rs3 => p2 _ F3 H3 _ sf3 (go ib3 rs3).1 (go ib3 rs3).2
                | ret d fr =>
                  intro σ3 F3 H3 own3 v sf3 ib3 rs3 hv
                  refine p2 _ F3 H3 _ v sf3 (go ib3 rs3).1 (go ib3 rs3).2 ?_
                  unfold RVal at hv ⊢
                  cases hG : G.v0.isSome with
                  | false => rw [hG] at hv; exact hv
                  | true =>
                    rw [hG] at hv
                    simp only [if_true] at hv ⊢
                    rw [ownSet_ne (Ne.symm (nz hG))]; exact hv
              · exact p2.elim
/-- try: b; except ..: .. -/
theorem tryC_ok {K : PySem.W.Frag} (hK : E.w.K = K) (xo : XOk E) {b : Sms} {hs : Hds} {σ : L2.St} {H : Hp} {Dn : Ends} (hy : hdOk E G hs) (h : tS E [] W G (.tri b hs) Dn σ H) :
    tSs E [] (wCl K W Dn (clsOf E G hs)) G b Dn σ H := by
  obtain ⟨s, F, own, rs, ib, p⟩ := h
  refine ⟨s, F, own, rs, ib, ?_⟩
  have p' : PostS E.w [] W G F (match evMs E.gl E.call b s with
    | .ex c x s => evH E.gl E.call hs c x s
    | r => r) Dn := p
  cases q : evMs E.gl E.call b s with
  | bad => rw [q] at p'; exact p'
  | ok f s1 =>
    rw [q] at p'
    cases f with
    | nx => exact p'
    | bk => exact p'
    | ct => exact p'
    | ret d fr => exact p'
  | ex c x s1 =>
    rw [q] at p'
    intro σ' F' H' own' dd sf i' rs' hx
    have hc : c ∈ E.w.xs := by cases hx <;> assumption
    exact cls_ok hK xo hc i' rs' hx (fun e p => by subst e; exact p σ' F' H' own' dd (.refl _) i' rs' hx) hy (p'.grow sf)
theorem put_pe {j : Nat} {x : Str} {px p : Pos} {ks : Expr} {te : TE} (hs : ∀ l u t q, ks ≠ .Slice l u t q) (hv : PE X (.Name x px) (tVar j)) (hk : PE X ks te) : PG X (.Subscript (.Name x px) ks p) (gSub (tVar j) te rSetL) :=
  pg_sub hv hk set_list (fun v => by cases ks <;> first | exact absurd rfl (hs _ _ _ _) | rfl)
theorem noSlice {C : Cn} {a : Ex} {e : Expr} (h : chkE C a e = true) : ∀ l u t q, e ≠ .Slice l u t q := fun l u t q e' => by subst e'; exact absurd h (by cases a <;> simp [chkE, shLc, shLc2, shDct])
theorem mt_app {X : Cx} : MtR X "list.append" rAppend := mt_append
theorem mt_ins {X : Cx} : MtR X "list.insert" rInsert := mt_insert
theorem mt_ext {X : Cx} : MtR X "list.extend" rExtend := mt_extend
mutual
theorem snd_s (k : EnOk E) (fo : FnsOk E) (xo : XOk E) (xi : XiOk E) : ∀ {il : Sm} {C : Cn} {X : Cx} {cx : Cxs} {W : WX}, GoodS E C X cx W G → ∀ {st : Stmt}, chkS C il st = true → PS X st (tS E cx W G il)
  | .set i e, C, X, cx, W, g, st, h => by
    cases st with
    | Assign tg v p =>
      simp only [chkS] at h
      split at h
      · rename_i x px hsh
        obtain rfl := shNameP_ok hsh
        simp only [Bool.and_eq_true] at h
        obtain ⟨⟨h1, h2⟩, h3⟩ := h
        obtain ⟨s1, s2, s3, s4⟩ := g.g.sto h1
        exact ⟨fun pins s σ H D I q => (set_ps k fo g h1 h2 h3).run pins s σ H D I (set_ok (g.nz s4) q)⟩
      · cases h
    | _ => simp [chkS] at h
  | .unp t e, C, X, cx, W, g, st, h => by
    cases st with
    | Assign tg v p =>
      simp only [chkS] at h
      split at h
      · rename_i es j q hsh
        have hsh := shTup_ok hsh
        subst hsh
        simp only [Bool.and_eq_true] at h
        obtain ⟨⟨⟨⟨h0, h1⟩, h2⟩, h3⟩, h4⟩ := h
        exact ⟨fun pins s σ H D I r => (ps_asg (snd_e k fo g.g h4).v (snd_g g.g h0 h3) (swaps_sole h2) (swapped_none h1) (assign_one fun x q e => by cases e)).run pins s σ H D I (unp_ok (fun v e => chkT_has h3 (g.nv v e)) r)⟩
      · cases h
    | _ => simp [chkS] at h
  | .par i j a b, C, X, cx, W, g, st, h => by
    cases st with
    | Assign tg v p =>
      simp only [chkS] at h
      split at h
      · rename_i x px y py a' b' hsh
        obtain ⟨kt, pt, k2, pt2, rfl, rfl⟩ := shPar_ok hsh
        simp only [Bool.and_eq_true, bne_iff_ne] at h
        obtain ⟨⟨⟨⟨⟨⟨h0, h1⟩, h2⟩, h3⟩, h4⟩, h5⟩, h6⟩ := h
        simp only [isLcl, Bool.and_eq_true, beq_iff_eq, Bool.not_eq_true'] at h1 h2
        obtain ⟨⟨n1, l1⟩, z1⟩ := h1
        obtain ⟨⟨n2, l2⟩, z2⟩ := h2
        rw [← g.g.sc] at l1 l2
        have nz : ∀ {i : Nat}, (C.io && i == 0) = false → G.v0.isSome = true → i ≠ 0 := fun {i} z e => g.nz (i := i) (fun q => by rw [q] at z; simpa using z) e
        have hp := h4
        simp only [parC, Bool.and_eq_true] at hp
        obtain ⟨q1, q2⟩ := noStar_cons hp.1.1.2
        obtain ⟨q3, _⟩ := noStar_cons q2
        have hbk : X.env.blockKind = .function := by unfold Env.blockKind; rw [g.kd]; rfl
        exact ⟨fun pins s σ H D I r => (ps_par (by rw [g.g.calm]; exact h0) (by rw [g.g.N]; exact g.g.nd) (by rw [g.g.N]; exact n1) (by rw [g.g.N]; exact n2) h3 l1 l2
          (pa_cons (snd_e k fo g.g h5).v (pa_cons (snd_e k fo g.g h6).v pa_nil (star_of q3)) (star_of q1)) (swapped_two hbk l1 l2 h4) (swaps_sole rfl)).run pins s σ H D I (par_ok (nz z1) (nz z2) r)⟩
      · cases h
    | _ => simp [chkS] at h
  | .put i a v, C, X, cx, W, g, st, h => by
    cases st with
    | Assign tg v' p =>
      simp only [chkS] at h
      split at h
      · rename_i x px ks hsh
        obtain ⟨q, rfl⟩ := shPut_ok hsh
        simp only [Bool.and_eq_true] at h
        obtain ⟨⟨⟨h1, h2⟩, h3⟩, h4⟩ := h
        obtain ⟨v1, v2, v3, v4⟩ := g.g.vis h1
        exact ⟨fun pins s σ H D I r => (ps_asg (snd_e k fo g.g h4).v (put_pe (noSlice h3) (pe_var v1 v2 v3 v4) (snd_e k fo g.g h3).r) (swaps_sole h2) swapped_sub (assign_one fun x q e => by cases e)).run pins s σ H D I (put_ok r)⟩
      · cases h
    | _ => simp [chkS] at h
  | .aug i o e, C, X, cx, W, g, st, h => by
    cases st with
    | AugAssign tg op v p =>
      cases tg with
      | Name x px =>
        simp only [chkS, Bool.and_eq_true, beq_iff_eq] at h
        obtain ⟨⟨h1, h2⟩, h3⟩ := h
        obtain ⟨s1, s2, s3, s4⟩ := g.g.sto h2
        exact ⟨fun pins s σ H D I r => (ps_aug (by rw [g.g.N]; exact g.g.nd) s1 s2 (snd_e k fo g.g h3).r (aug_op (w := E.w) h1) s3).run pins s σ H D I (aug_ok (g.nz s4) r)⟩
      | _ => simp [chkS] at h
    | _ => simp [chkS] at h
  | .ex e, C, X, cx, W, g, st, h => by
    cases st with
    | Expr v p =>
      simp only [chkS, Bool.and_eq_true] at h
      exact ⟨fun pins s σ H D I r => (ps_expr (snd_e k fo g.g h.2).v (swaps_none h.1)).run pins s σ H D I (ex_ok r)⟩
    | _ => simp [chkS] at h
  | .app i e, C, X, cx, W, g, st, h => by
    cases st with
    | Expr v p =>
      simp only [chkS] at h
      split at h
      · rename_i x px n ap v cp hsh
        have hsh := shApp_ok hsh
        subst hsh
        simp only [Bool.and_eq_true, beq_iff_eq] at h
        obtain ⟨⟨⟨⟨rfl, h2⟩, h3⟩, h4⟩, h5⟩ := h
        obtain ⟨v1, v2, v3, v4⟩ := g.g.vis h3
        have hs := star_of (env := X.env) (es := []) (noStar_cons h4).1
        exact ⟨fun pins s σ H D I r => (ps_expr (pe_bm PySem.F.plainAttrs_list PySem.F.slot_list_append PySem.F.type_list_append mt_app (pe_var v1 v2 v3 v4) (pa_cons (snd_e k fo g.g h5).v pa_nil hs) rfl (by rw [hs]; rfl) (by rw [h2]; exact beq_self_eq_true _) hs rfl) (swaps_none rfl)).run pins s σ H D I (app_ok (X := X) r)⟩
      · cases h
    | _ => simp [chkS] at h
  | .ins i k1 e, C, X, cx, W, g, st, h => by
    cases st with
    | Expr v p =>
      simp only [chkS] at h
      split at h
      · rename_i x px n ap u v cp hsh
        have hsh := shIns_ok hsh
        subst hsh
        simp only [Bool.and_eq_true, beq_iff_eq] at h
        obtain ⟨⟨⟨⟨⟨rfl, h2⟩, h3⟩, h4⟩, h5⟩, h6⟩ := h
        obtain ⟨v1, v2, v3, v4⟩ := g.g.vis h3
        have hs := star_of (env := X.env) (es := [v]) (noStar_cons h4).1
        have hs2 := star_of (env := X.env) (es := []) (noStar_cons (noStar_cons h4).2).1
        exact ⟨fun pins s σ H D I r => (ps_expr (pe_bm PySem.F.plainAttrs_list PySem.F.slot_list_insert PySem.F.type_list_insert mt_ins (pe_var v1 v2 v3 v4) (pa_cons (snd_e k fo g.g h5).v (pa_cons (snd_e k fo g.g h6).v pa_nil hs2) hs) rfl (by rw [hs, hs2]; rfl) (by rw [h2]; exact beq_self_eq_true _) hs (by rw [hs2]; rfl)) (swaps_none rfl)).run pins s σ H D I (ins_ok (X := X) r)⟩
      · cases h
    | _ => simp [chkS] at h
  | .ext i e, C, X, cx, W, g, st, h => by
    cases st with
    | Expr v p =>
      simp only [chkS] at h
      split at h
      · rename_i x px n ap v cp hsh
        have hsh := shApp_ok hsh
        subst hsh
        simp only [Bool.and_eq_true, beq_iff_eq] at h
        obtain ⟨⟨⟨⟨rfl, h2⟩, h3⟩, h4⟩, h5⟩ := h
        obtain ⟨v1, v2, v3, v4⟩ := g.g.vis h3
        have hs := star_of (env := X.env) (es := []) (noStar_cons h4).1
        exact ⟨fun pins s σ H D I r => (ps_expr (pe_bm PySem.F.plainAttrs_list PySem.F.slot_list_extend PySem.F.type_list_extend mt_ext (pe_var v1 v2 v3 v4) (pa_cons (snd_e k fo g.g h5).v pa_nil hs) rfl (by rw [hs]; rfl) (by rw [h2]; exact beq_self_eq_true _) hs rfl) (swaps_none rfl)).run pins s σ H D I (ext_ok (X := X) r)⟩
      · cases h
    | _ => simp [chkS] at h
  | .pass, C, X, cx, W, g, st, h => by
    cases st with
    | Pass p => exact ⟨fun pins s σ H D I r => ps_pass.run pins s σ H D I (pass_ok r)⟩
    | Expr v p =>
      cases v with
      | Constant c j q =>
        cases c with
        | str x => exact ⟨fun pins s σ H D I r => ps_doc.run pins s σ H D I (pass_ok r)⟩
        | _ => simp [chkS] at h
      | _ => simp [chkS] at h
    | _ => simp [chkS] at h
  | .cont, C, X, cx, W, g, st, h => by
    cases st with
    | Continue p => exact ⟨fun pins s σ H D I r => ps_continue.run pins s σ H D I (cont_ok r)⟩
    | _ => simp [chkS] at h
  | .brk, C, X, cx, W, g, st, h => by
    cases st with
    | Break p => exact ⟨fun pins s σ H D I r => ps_break.run pins s σ H D I (brk_ok r)⟩
    | _ => simp [chkS] at h
  | .forr t it b, C, X, cx, W, g, st, h => by
    cases st with
    | For tg iter body orelse p =>
      cases orelse with
      | nil =>
        simp only [chkS, Bool.and_eq_true] at h
        obtain ⟨⟨⟨h0, h1⟩, h2⟩, h3⟩ := h
        exact ⟨fun pins s σ H D I r => (ps_for g.po (by rw [g.g.calm]; exact h0) (snd_it k fo g.g h2) (snd_g g.g h0 h1) (snd_ss k fo xo xi g h3) (folded_pure (noSet h2))).run pins s σ H D I (forr_ok (fun v e => chkT_has h1 (g.nv v e)) r)⟩
      | cons _ _ => simp [chkS] at h
    | _ => simp [chkS] at h
  | .whil c b, C, X, cx, W, g, st, h => by
    cases st with
    | While t body orelse p =>
      cases orelse with
      | nil =>
        simp only [chkS, Bool.and_eq_true] at h
        obtain ⟨⟨h0, h1⟩, h2⟩ := h
        exact ⟨fun pins s σ H D I r => (ps_while g.po (snd_e k fo g.g h1).t (snd_ss k fo xo xi g h2)).run pins s σ H D I (whil_ok r)⟩
      | cons _ _ => simp [chkS] at h
    | _ => simp [chkS] at h
  | .iff c a b, C, X, cx, W, g, st, h => by
    cases st with
    | If t x y p =>
      simp only [chkS, Bool.and_eq_true] at h
      obtain ⟨⟨h0, h1⟩, h2⟩ := h
      exact ⟨fun pins s σ H D I r => (ps_if (snd_e k fo g.g h0).t (snd_ss k fo xo xi g h1) (snd_ss k fo xo xi g h2)).run pins s σ H D I (iff_ok r)⟩
    | _ => simp [chkS] at h
  | .ret e, C, X, cx, W, g, st, h => by
    cases st with
    | Return v p =>
      cases v with
      | none => simp [chkS] at h
      | some v =>
        simp only [chkS, Bool.and_eq_true] at h
        cases e with
        | loc i =>
          have hv := var_of g.g h.2 i rfl
          refine ⟨fun pins s σ H D I r => (ps_ret hv).run pins s σ H D I (retL_ok (fun e => ?_) r)⟩
          have h1 := h.1
          subst e
          simp only [Bool.not_eq_true', Bool.and_eq_false_iff] at h1
          have hio : C.io = false := by rcases h1 with h1 | h1 <;> simp_all
          have : G.v0 = none := by
            have := g.io
            rw [hio] at this
            simpa using this.symm
          exact ⟨this, g.ow this⟩
        | fld _ _ => simp at h
        | _ => exact ⟨fun pins s σ H D I r => (ps_ret (snd_e k fo g.g h.2).v).run pins s σ H D I (ret_ok (fun i z => by cases z) r)⟩
    | _ => simp [chkS] at h
  | .retN, C, X, cx, W, g, st, h => by
    cases st with
    | Return v p =>
      cases v with
      | none => exact ⟨fun pins s σ H D I r => ps_retN.run pins s σ H D I (retN_ok r)⟩
      | some _ => simp [chkS] at h
    | _ => simp [chkS] at h
  | .rais c o, C, X, cx, W, g, st, h => by
    cases o with
    | yes e =>
      cases st with
      | Raise ex ca p =>
        simp only [chkS] at h
        split at h
        · rename_i x a hsh
          obtain ⟨px, cp, rfl, rfl⟩ := shRaisY_ok hsh
          simp only [Bool.and_eq_true, beq_iff_eq] at h
          obtain ⟨⟨⟨⟨⟨⟨rfl, h2⟩, h3⟩, h4⟩, h5⟩, h6⟩, h7⟩ := h
          have hc : c ∈ E.w.xs := by rw [← g.g.xs]; simpa using h4
          obtain ⟨f, hf⟩ := Option.isSome_iff_exists.mp h5
          obtain ⟨fd, fI, hfd, T⟩ := xi.er c hc f hf
          obtain ⟨hg, hd⟩ := g.g.glo h2
          exact ⟨fun pins s σ H D I r => (ps_raise (by rw [g.g.calm]; exact h3) g.g.tk (pmk_low (f := fd) (by rw [← g.g.K]; exact T) (g.g.room h3) (snd_e k fo g.g h7).v hg (by rw [g.g.mg]; exact xo.mg c hc) hd (star_of (noStar_cons h6).1))).run pins s σ H D I (raisY_ok (k.xf ▸ hf) hfd hc r)⟩
        · cases h
      | _ => simp [chkS] at h
    | no =>
      cases st with
      | Raise ex ca p =>
        simp only [chkS, Bool.and_eq_true, beq_iff_eq] at h
        obtain ⟨⟨⟨⟨h1, h2⟩, h3⟩, h4⟩, h8⟩ := h
        obtain ⟨px, m, j, q, cp, rfl, rfl⟩ := shRais_ok h1
        have hc : c ∈ E.w.xs := by rw [← g.g.xs]; simpa using h4
        obtain ⟨hg, hd⟩ := g.g.glo h2
        exact ⟨fun pins s σ H D I r => (ps_raise (by rw [g.g.calm]; exact h3) g.g.tk (pmk_own PySem.F.excBase_ValueError (by rw [← g.g.K]; exact xo.ex c hc h8) (by rw [g.g.mg]; exact xo.mg c hc) (by rw [← g.g.K]; exact xo.kp c hc)
          (raises_own (by rw [← g.g.K]; exact xo.sb c hc) (by rw [← g.g.K]; exact xo.ty c hc)) hg hd)).run pins s σ H D I (rais_ok hc r)⟩
      | _ => simp [chkS] at h
  | .mat e hd, C, X, cx, W, g, st, h => by
    cases st with
    | Match v cs p =>
      simp only [chkS, Bool.and_eq_true] at h
      exact ⟨fun pins s σ H D I q => (ps_match (snd_e k fo g.g h.1).r (snd_w k fo xo xi g h.2)).run pins s σ H D I (mat_ok q)⟩
    | _ => simp [chkS] at h
  | .tri b hs, C, X, cx, W, g, st, h => by
    cases st with
    | Try body hds orelse fin p =>
      simp only [chkS, Bool.and_eq_true] at h
      obtain ⟨⟨⟨⟨⟨e1, e2⟩, e3⟩, h0⟩, h4⟩, h5⟩ := h
      obtain rfl := List.isEmpty_iff.mp e1
      obtain rfl := List.isEmpty_iff.mp e2
      cases hds with
      | nil => cases e3
      | cons hd hds =>
        have hcx := g.g.nx h0
        subst hcx
        obtain ⟨q1, q2⟩ := snd_h k fo xo xi g h5
        exact ⟨fun pins s σ H D I r => (ps_tryC (tb := fun W' => tSs E [] W' G b) (by rw [g.g.N]; exact g.g.nd) g.hs g.hf g.g.tk (fun W' pn xe tk po => snd_ss k fo xo xi ⟨g.g.tr h0 tk, g.io, g.ow, po, g.hs, g.hf, g.kd⟩ h4) q2).run pins s σ H D I (tryC_ok g.g.K xo q1 r)⟩
    | _ => simp [chkS] at h
  | .putF i f a v, C, X, cx, W, g, st, h => by
    cases st with
    | Assign tg v' p =>
      simp only [chkS] at h
      split at h
      · rename_i x px n fp ks hsh
        obtain ⟨q, rfl⟩ := shPutF_ok hsh
        simp only [Bool.and_eq_true, beq_iff_eq] at h
        obtain ⟨⟨⟨⟨rfl, h1⟩, h2⟩, h3⟩, h4⟩ := h
        exact ⟨fun pins s σ H D I r => (ps_asg (snd_e k fo g.g h4).v (putF_pe (noSlice h3) (fv_pe g.g k h1) (snd_e k fo g.g h3).r) (swaps_sole h2) swapped_sub (assign_one fun x q e => by cases e)).run pins s σ H D I (putF_ok r)⟩
      · cases h
    | _ => simp [chkS] at h
  | .setF i f e, C, X, cx, W, g, st, h => by
    cases st with
    | Assign tg v p =>
      simp only [chkS] at h
      split at h
      · rename_i x px n ap hsh
        obtain rfl := shFld_ok hsh
        simp only [Bool.and_eq_true, beq_iff_eq] at h
        obtain ⟨⟨rfl, h1⟩, h2⟩ := h
        obtain ⟨v1, v2, v3, v4⟩ := g.g.vis h1
        exact ⟨fun pins s σ H D I r => (ps_fld (pe_var v1 v2 v3 v4) (snd_e k fo g.g h2).v swaps_fld).run pins s σ H D I (setF_ok k g.g.K r)⟩
      · cases h
    | _ => simp [chkS] at h
  | .augF i f o e, C, X, cx, W, g, st, h => by
    cases st with
    | AugAssign tg op v p =>
      cases tg with
      | Attribute b n q =>
        cases b with
        | Name x px =>
          simp only [chkS, Bool.and_eq_true, beq_iff_eq] at h
          obtain ⟨⟨⟨rfl, h1⟩, h2⟩, h3⟩ := h
          obtain ⟨v1, v2, v3, v4⟩ := g.g.vis h2
          exact ⟨fun pins s σ H D I r => (ps_fldaug (pe_var v1 v2 v3 v4) (snd_e k fo g.g h3).r (fun pins s σ H x y u v Q I rx ry hh => aug_op (w := E.w) h1 pins s σ H x y u v Q I rx ry hh)).run pins s σ H D I (augF_ok k g.g.K r)⟩
        | _ => simp [chkS] at h
      | _ => simp [chkS] at h
    | _ => simp [chkS] at h
  | .appF i f e, C, X, cx, W, g, st, h => by
    cases st with
    | Expr v p =>
      simp only [chkS] at h
      split at h
      · rename_i x px n fp m ap v cp hsh
        have hsh := shAppF_ok hsh
        subst hsh
        simp only [Bool.and_eq_true, beq_iff_eq] at h
        obtain ⟨⟨⟨⟨⟨rfl, rfl⟩, h2⟩, h3⟩, h4⟩, h5⟩ := h
        have hs := star_of (env := X.env) (es := []) (noStar_cons h4).1
        exact ⟨fun pins s σ H D I r => (ps_expr (pe_bm PySem.F.plainAttrs_list PySem.F.slot_list_append PySem.F.type_list_append mt_app (fv_pe g.g k h3) (pa_cons (snd_e k fo g.g h5).v pa_nil hs) rfl (by rw [hs]; rfl) (by rw [h2]; exact beq_self_eq_true _) hs rfl) (swaps_none rfl)).run pins s σ H D I (appF_ok (X := X) r)⟩
      · cases h
    | _ => simp [chkS] at h
  | .make i c f xs, C, X, cx, W, g, st, h => by
    cases st with
    | Assign tg v p =>
      simp only [chkS] at h
      split at h
      · rename_i x px n pn args q hsh hsm
        obtain rfl := shNameP_ok hsh
        obtain rfl := shMake_ok hsm
        simp only [Bool.and_eq_true, beq_iff_eq] at h
        obtain ⟨⟨⟨⟨⟨⟨rfl, h1⟩, h2⟩, h3⟩, h4⟩, h5⟩, h6⟩ := h
        obtain ⟨s1, s2, s3, s4⟩ := g.g.sto h1
        obtain ⟨hgl, hd⟩ := g.g.glo h3
        obtain ⟨a, fd, ps, k0, k1, k2, k3, k4, k5⟩ := fo.calK (f, c) (by rw [← g.g.fk]; simpa using h4)
        have F : FnOk X.prog X.w X.K X.mg X.base (L2.CX X.prog X.w) E.k a fd ps (spI E f ps.length) := by rw [g.g.P, g.g.wd, ← g.g.K, g.g.mg, g.g.base]; exact k4
        have pe := pe_makeSD (p := pn) (pos := q) (E := WE W) (by rw [← g.g.K]; exact k2) F (g.g.room h2) hgl (by rw [g.g.mg]; exact k1) (by rw [← g.g.K]; exact k3) (fun σ => passAt g.g.tk σ) (snd_xs k fo g.g h6) (fun e σ H Q q => by
          subst e
          cases xs with
          | nil => exact xs_nil q
          | cons st _ _ => cases st <;> simp [chkXs] at h6) hd h5
        exact ⟨fun pins s σ H D I r => (ps_set (i := i) (by rw [g.g.N]; exact g.g.nd) s1 s2 pe (swaps_none rfl) s3).run pins s σ H D I (make_ok k0 (g.nz s4) k5 r)⟩
      · cases h
    | _ => simp [chkS] at h
termination_by structural il => il
theorem snd_ss (k : EnOk E) (fo : FnsOk E) (xo : XOk E) (xi : XiOk E) : ∀ {il : Sms} {C : Cn} {X : Cx} {cx : Cxs} {W : WX}, GoodS E C X cx W G → ∀ {st : List Stmt}, chkSs C il st = true → PSs X st (tSs E cx W G il)
  | .nil, C, X, cx, W, g, st, h => by
    cases st with
    | nil => exact ⟨fun pins s σ H D I q => pss_nil.run pins s σ H D I (nil_ok q)⟩
    | cons _ _ => simp [chkSs] at h
  | .cons a r, C, X, cx, W, g, st, h => by
    cases st with
    | nil => simp [chkSs] at h
    | cons x xs =>
      simp only [chkSs, Bool.and_eq_true] at h
      exact ⟨fun pins s σ H D I q => (pss_cons (snd_s k fo xo xi g h.1) (snd_ss k fo xo xi g h.2)).run pins s σ H D I (cons_ok q)⟩
termination_by structural il => il
theorem snd_h (k : EnOk E) (fo : FnsOk E) (xo : XOk E) (xi : XiOk E) : ∀ {il : Hds} {C : Cn} {X : Cx} {W : WX}, GoodS E C X [] W G → ∀ {hds : List ExceptHandler}, chkH C il hds = true → hdOk E G il ∧ ClsOk X hds (clsOf E G il)
  | .nil, C, X, W, g, hds, h => by
    cases hds with
    | nil => exact ⟨trivial, .nil⟩
    | cons _ _ => simp [chkH] at h
  | .cons y i hb r, C, X, W, g, hds, h => by
    cases hds with
    | nil => simp [chkH] at h
    | cons hd hds =>
      simp only [chkH, Bool.and_eq_true] at h
      obtain ⟨h1, h2⟩ := h
      obtain ⟨q1, q2⟩ := snd_h k fo xo xi g h2
      split at h1
      · rename_i x n b0 su hsh
        obtain ⟨px, hp, rfl⟩ := shH_ok hsh
        simp only [Bool.and_eq_true, beq_iff_eq] at h1
        obtain ⟨⟨⟨⟨rfl, g2⟩, g3⟩, g4⟩, g5⟩ := h1
        have hy : y ∈ E.w.xs := by rw [← g.g.xs]; simpa using g3
        obtain ⟨hg, hd⟩ := g.g.glo g2
        have nm : Names X y (.ref (E.w.ca y)) := ⟨hg, hd, .inl (by rw [g.g.mg]; exact xo.mg y hy)⟩
        cases i with
        | none =>
          cases n with
          | some _ => simp [lclO] at g4
          | none =>
            refine ⟨⟨hy, fun j e => (by cases e), q1⟩, .cons (.no nm fun a oe cls d pn hz hf => ⟨fun pins s σ H D I ⟨c, ec, hc, q⟩ => ?_⟩) q2⟩
            exact (snd_ss k fo xo xi ⟨g.g.su0, g.io, g.ow, PassesOwn.never, g.hs, g.hf, g.kd⟩ g5).run pins s σ H D I q
        | some i =>
          cases n with
          | none => simp [lclO] at g4
          | some n =>
            simp only [lclO, isLcl, Bool.and_eq_true, beq_iff_eq, Bool.not_eq_true'] at g4
            obtain ⟨⟨n1, l1⟩, z1⟩ := g4
            rw [← g.g.sc] at l1
            have nz : G.v0.isSome = true → i ≠ 0 := fun e => g.nz (i := i) (fun q => by rw [q] at z1; simpa using z1) e
            refine ⟨⟨hy, fun j e => (by cases e; exact nz), q1⟩, .cons (.yes nm (by rw [g.g.N]; exact n1) l1 fun a oe cls d pn hz hf => ⟨fun pins s σ H D I ⟨c, ec, hc, q⟩ => ?_⟩) q2⟩
            subst ec
            exact (snd_ss k fo xo xi ⟨g.g.su hz hf hc, g.io, g.ow, PassesOwn.never, g.hs, g.hf, g.kd⟩ g5).run pins s σ H D I q
      · cases h1
termination_by structural il => il
theorem snd_w (k : EnOk E) (fo : FnsOk E) (xo : XOk E) (xi : XiOk E) : ∀ {il : Hds} {C : Cn} {X : Cx} {cx : Cxs} {W : WX}, GoodS E C X cx W G → ∀ {cs : List MatchCase}, chkW C il cs = true → Words X cs (wordsOf E cx W G il)
  | .nil, C, X, cx, W, g, cs, h => by
    cases cs with
    | nil => exact .nil
    | cons _ _ => simp [chkW] at h
  | .cons y i b r, C, X, cx, W, g, cs, h => by
    cases i with
    | some _ => simp [chkW] at h
    | none =>
      cases cs with
      | nil => simp [chkW] at h
      | cons c cs =>
        simp only [chkW, Bool.and_eq_true] at h
        obtain ⟨h1, h2⟩ := h
        split at h1
        · rename_i w b' hsh
          obtain ⟨k', p, q, rfl⟩ := shW_ok hsh
          simp only [Bool.and_eq_true, beq_iff_eq] at h1
          obtain ⟨rfl, h1⟩ := h1
          exact .cons (snd_ss k fo xo xi g h1) (snd_w k fo xo xi g h2)
        · cases h1
termination_by structural il => il
end
end
end IL
end
section
set_option maxHeartbeats 4000000
namespace IL
open PySem PySem.Spec PyProof.Rows L2
/-- a law's world without the depth -/
structure Wd where
  P : Program
  wd : World
  mg : Str → Option Value
  base : Heap
  w : Wo
  gl : Str → Option D
  T : Str → Option Fn
  fs : List Str
  fi : List Str
  gn : List Str
  fm : List (Str × Str × Str)
  fk : List (Str × Str)
/-- two of the library's levels a call: a class's call takes one of its own -/
noncomputable def Wd.en (U : Wd) (n : Nat) : En := ⟨U.P, U.wd, U.mg, U.base, U.w, U.gl, callN U.gl U.T n, 2 * n, U.fs, U.fi, U.gn, U.fm, U.fk⟩
def cellsOf (sc : Scope) : List Str := (sc.names.filter fun y => y.2 == .cell).map (·.1)
/-- the text's def and the term agree -/
structure FnD (U : Wd) (f : Str) (fn : Fn) : Prop where
  ex : ∃ (st : Stmt) (qual : Str) (a : Addr) (fd : FuncData) (ps N : List Str), Fun U.w.K f qual st a fd ∧ U.mg f = some (.ref a) ∧ Binds U.w.K fd ps [] ∧ FnScope N ps (defScope st) ∧ N.length = fn.ns ∧ ps.length = fn.np ∧
    chkSs ⟨N, defScope st, true, U.fs, U.fi, fn.io, U.w.xs, cellsOf (defScope st), U.gn, U.fm, U.fk⟩ fn.body (defBody st) = true
/-- .. of a method -/
structure FnM (U : Wd) (f c m : Str) (fn : Fn) : Prop where
  ex : ∃ (st : Stmt) (qual : Str) (a : Addr) (fd : FuncData) (ps N : List Str), Fun U.w.K m qual st a fd ∧ c ∈ U.w.cl ∧ Meth U.w.K (U.w.ca c) m a ∧ m ∉ clsF c ∧ Binds U.w.K fd ps [] ∧ FnScope N ps (defScope st) ∧ N.length = fn.ns ∧ ps.length = fn.np ∧
    chkSs ⟨N, defScope st, true, U.fs, U.fi, fn.io, U.w.xs, cellsOf (defScope st), U.gn, U.fm, U.fk⟩ fn.body (defBody st) = true
/-- .. of a class's beginning -/
structure FnK (U : Wd) (f c : Str) (fn : Fn) : Prop where
  ex : ∃ (st : Stmt) (nm qual : Str) (a : Addr) (fd : FuncData) (ps N : List Str), Fun U.w.K nm qual st a fd ∧ c ∈ U.w.cl ∧ U.mg c = some (.ref (U.w.ca c)) ∧ Mk U.w.K (U.w.ca c) a ∧ Binds U.w.K fd ps [] ∧ FnScope N ps (defScope st) ∧ N.length = fn.ns ∧ ps.length = fn.np ∧
    chkSs ⟨N, defScope st, true, U.fs, U.fi, fn.io, U.w.xs, cellsOf (defScope st), U.gn, U.fm, U.fk⟩ fn.body (defBody st) = true
section
variable {U : Wd}
theorem EnOk.at {n m : Nat} (k : EnOk (U.en n)) : EnOk (U.en m) := ⟨k.gl, k.blt, k.xf, k.xr, k.cl⟩
theorem XiOk.at {n m : Nat} (k : XiOk (U.en n)) : XiOk (U.en m) := ⟨k.er⟩
theorem XOk.at {n m : Nat} (k : XOk (U.en n)) : XOk (U.en m) := ⟨k.mg, k.kp, k.ex, k.sb, k.ty, k.ab⟩
theorem start_get {N : List Str} {vs : List V} {i : Nat} {v : V} (h : vs[i]? = some v) : (start N vs)[i]? = some (some v) := by
  unfold L2.start
  have hi := (List.getElem?_eq_some_iff.mp h).1
  rw [List.getElem?_append_left (by simpa using hi), List.getElem?_map, h]; rfl
theorem start_len {N : List Str} {vs : List V} (h : vs.length ≤ N.length) : (start N vs).length = N.length := by
  unfold L2.start; simp; omega
theorem start_un {N : List Str} {vs : List V} {i : Nat} (h : vs.length ≤ i) (hi : i < N.length) (hl : vs.length ≤ N.length) : (start N vs)[i]? = some none := by
  unfold L2.start
  rw [List.getElem?_append_right (by simpa using h), List.getElem?_replicate]
  simp; omega
/-- the state at a def's entry -/
theorem rs_start {w : Wo} {F H : Hp} {N : List Str} {vs : List V} {ds : List D} {m : Nat} (sf : Sub F H) (r : Reps w F vs ds) (hN : N.length = ds.length + m) : RS w [] (ds.map Slot.sh ++ List.replicate m .un) F (start N vs) H (own0 []) := by
  have hl := r.length
  have o0 : ∀ i, own0 [] i = [] := fun i => by unfold own0; split <;> rfl
  refine ⟨by rw [start_len (by omega)]; simp; omega, sf, fun i x e => ?_, fun i _ => o0 i, fun i => by rw [o0]; exact List.nodup_nil, fun i j a _ h => by rw [o0] at h; cases h⟩
  rw [o0]
  by_cases hi : i < ds.length
  · rw [List.getElem?_append_left (by simpa using hi), List.getElem?_map, List.getElem?_eq_getElem hi] at e
    cases e
    obtain ⟨v, e1, hr⟩ := r.get (List.getElem?_eq_getElem hi)
    exact ⟨_, start_get e1, .sh hr⟩
  · rw [List.getElem?_append_right (by simpa using hi), List.getElem?_replicate] at e
    split at e
    · cases e
      refine ⟨none, start_un (by omega) ?_ (by omega), .un none⟩
      simp at *; omega
    · cases e
theorem rs_start1 {w : Wo} {F H : Hp} {N : List Str} {v0 : V} {vs : List V} {ds : List D} {m : Nat} {x : Slot} {A : List Addr} (sf : Sub F H) (r : Reps w F vs ds) (hx : SlotR w [] F H x (some v0) A) (nd : A.Nodup) (hN : N.length = ds.length + 1 + m) :
    RS w [] (x :: ds.map Slot.sh ++ List.replicate m .un) F (start N (v0 :: vs)) H (own0 A) := by
  have hl := r.length
  refine ⟨by rw [start_len (by simp; omega)]; simp; omega, sf, fun i y e => ?_, fun i hi => ?_, fun i => ?_, fun i j a hij ha hb => ?_⟩
  · cases i with
    | zero =>
      simp at e
      subst e
      exact ⟨_, start_get rfl, by simpa [own0] using hx⟩
    | succ i =>
      have o1 : own0 A (i + 1) = [] := by simp [own0]
      rw [o1]
      have e' : (ds.map Slot.sh ++ List.replicate m Slot.un)[i]? = some y := by simpa using e
      by_cases hi : i < ds.length
      · rw [List.getElem?_append_left (by simpa using hi), List.getElem?_map, List.getElem?_eq_getElem hi] at e'
        cases e'
        obtain ⟨v, e1, hr⟩ := r.get (List.getElem?_eq_getElem hi)
        exact ⟨_, start_get (by simpa using e1), .sh hr⟩
      · rw [List.getElem?_append_right (by simpa using hi), List.getElem?_replicate] at e'
        split at e'
        · cases e'
          refine ⟨none, start_un (by simp; omega) ?_ (by simp; omega), .un none⟩
          simp at *; omega
        · cases e'
  · have : i ≠ 0 := by simp at hi; omega
    simp [own0, this]
  · unfold own0; split
    · exact nd
    · exact List.nodup_nil
  · unfold own0 at ha hb
    split at ha
    · split at hb
      · omega
      · cases hb
    · cases ha
theorem pinS_unpin {x y : Slot} (h : pinS x = some y) : y = unpin true x := by
  cases x <;> simp [pinS] at h <;> subst h <;> rfl
theorem inb_pst {G : Gs} {σ : L2.St} {F H : Hp} {own : Nat → List Addr} (i : Inb G σ F H own) (sf : Sub F H) (ho : G.ow = []) : Pst G.F0 G.H0 F H :=
  ⟨i.fr.ff, sf, fun a o e => i.fr.hh a o e (own0_out (by rw [ho]; simp))⟩
theorem good_fn {n : Nat} {qual : Str} {st : Stmt} {a : Addr} {ps N : List Str} {io : Bool} {cdv : Value} {A : Around} {outer : List Env} {s : Shared} {H : Hp} {Ex : XK} {G : Gs}
    (S : FnScope N ps (defScope st)) (hr : Room (2 * n + 1) (A.deeper (envOfC qual (defScope st) s.heap.objs.size a cdv))) (hio : io = G.v0.isSome) (how : G.v0 = none → G.ow = []) :
    GoodS (U.en n) ⟨N, defScope st, true, U.fs, U.fi, io, U.w.xs, cellsOf (defScope st), U.gn, U.fm, U.fk⟩ (cxOf (L2.CX U.P U.wd) U.P U.wd U.w.K U.mg U.base N qual (defScope st) a cdv A outer s H Ex) [] (fun cls d _ H => Ex cls d H) G :=
  ⟨⟨rfl, rfl, rfl, rfl, rfl, rfl, S.nd, rfl, rfl, rfl, rfl, rfl, rfl, rfl, rfl, takes_of rfl rfl rfl rfl, fun _ => hr, hr.units, fun _ _ => rfl, fun _ => rfl, .inl rfl⟩, hio, how, passes_of rfl, rfl, rfl, S.kind⟩
theorem call_plain {n : Nat} {f : Str} {fn : Fn} (hT : U.T f = some fn) (hio : fn.io = false) (ds : List D) : callN U.gl U.T (n + 1) f .un ds = if ds.length = fn.np then endR fn .un (evMs U.gl (callN U.gl U.T n) fn.body (ds.map Slot.sh ++ List.replicate (fn.ns - fn.np) .un)) else .bad := by
  simp only [callN, hT, frame, hio]
  split <;> simp_all
theorem fn_plain0 {n : Nat} {f qual : Str} {fn : Fn} {st : Stmt} {a : Addr} {fd : FuncData} {ps N : List Str} (k : EnOk (U.en n)) (xo : XOk (U.en n)) (xi : XiOk (U.en n)) (fo : FnsOk (U.en n)) (hT : U.T f = some fn) (hio : fn.io = false)
    (hF : Fun U.w.K f qual st a fd) (S : FnScope N ps (defScope st)) (hN : N.length = fn.ns) (hp : ps.length = fn.np) (hc : chkSs ⟨N, defScope st, true, U.fs, U.fi, fn.io, U.w.xs, cellsOf (defScope st), U.gn, U.fm, U.fk⟩ fn.body (defBody st) = true) :
    FnOk U.P U.wd U.w.K U.mg U.base (L2.CX U.P U.wd) (2 * (n + 1)) a fd ps (spD (U.en (n + 1)) f ps.length) := by
  refine Fun.okX hF S (fun vs H Q Ex h => h.1) fun cdv A outer s H vs Q Ex hr hsp => ?_
  obtain ⟨hl, F, ds, sf, r, hq⟩ := hsp
  have hlen : ds.length = fn.np := by rw [← r.length, hl, hp]
  have hq' : match endR fn .un (evMs U.gl (callN U.gl U.T n) fn.body (ds.map Slot.sh ++ List.replicate (fn.ns - fn.np) .un)) with
    | .ret d fr _ => ∀ F' H' v, Pst F H F' H' → NV U.w H F' H' v d fr → Q v H'
    | .ex c x _ => ∀ F' H' dd, Pst F H F' H' → ExD U.w F' c x dd → Ex (.ref (U.w.ca c)) dd H'
    | .bad => False := by
    have e : (U.en (n + 1)).call f .un ds = callN U.gl U.T (n + 1) f .un ds := rfl
    rw [e, call_plain hT hio, if_pos hlen] at hq
    exact hq
  let G : Gs := ⟨F, H, [], none⟩
  have hpre : ps.length ≤ N.length := by
    have := congrArg List.length S.pre
    rw [List.length_take] at this
    omega
  refine ⟨tSs (U.en n) [] (fun cls d _ H => Ex cls d H) G fn.body, snd_ss k fo xo xi (good_fn (ps := ps) (G := G) S hr (by rw [hio]; rfl) fun _ => rfl) hc, ?_⟩
  refine ⟨_, F, own0 [], rs_start (m := fn.ns - fn.np) sf r (by omega), ⟨.refl, fun v e => by cases e⟩, ?_⟩
  show PostS U.w [] _ G F (evMs U.gl (callN U.gl U.T n) fn.body (ds.map Slot.sh ++ List.replicate (fn.ns - fn.np) .un)) _
  revert hq'
  generalize evMs U.gl (callN U.gl U.T n) fn.body (ds.map Slot.sh ++ List.replicate (fn.ns - fn.np) .un) = rr
  intro hq'
  cases rr with
  | bad => exact hq'
  | ex c x s1 => exact fun σ' F' H' own' dd _ i rs hx => hq' F' H' dd (inb_pst i rs.fh rfl) hx
  | ok fl s1 =>
    cases fl with
    | bk => exact hq'.elim
    | ct => exact hq'.elim
    | nx => exact fun σ' F' H' own' _ i rs => hq' F' H' .non (inb_pst i rs.fh rfl) (.inl ⟨rfl, .non⟩)
    | ret d fr =>
      intro σ' F' H' own' v _ i rs hv
      refine hq' F' H' v (inb_pst i rs.fh rfl) ?_
      rcases hv with hv | ⟨e, a, us, xs, h1, h2, h3, h4, h5, h6, h7, _⟩
      · exact .inl hv
      · exact .inr ⟨e, a, us, xs, h1, h2, h3, h4, h5, h6, h7⟩
/-- a def without a changed parameter -/
theorem fn_plain {n : Nat} {f : Str} {fn : Fn} (k : EnOk (U.en n)) (xo : XOk (U.en n)) (xi : XiOk (U.en n)) (fo : FnsOk (U.en n)) (hT : U.T f = some fn) (hio : fn.io = false) (h : FnD U f fn) :
    ∃ a fd ps, U.mg f = some (.ref a) ∧ PySem.W.keepIn U.w.K (.ref a) = true ∧ Binds U.w.K fd ps [] ∧ FnOk U.P U.wd U.w.K U.mg U.base (L2.CX U.P U.wd) (2 * (n + 1)) a fd ps (spD (U.en (n + 1)) f ps.length) ∧ ∀ ds, (U.en (n + 1)).call f .un ds ≠ .bad → ds.length = ps.length := by
  obtain ⟨st, qual, a, fd, ps, N, hF, hm, hb, S, hN, hp, hc⟩ := h.ex
  refine ⟨a, fd, ps, hm, hF.kp, hb, fn_plain0 k xo xi fo hT hio hF S hN hp hc, fun ds hd => ?_⟩
  have e : (U.en (n + 1)).call f .un ds = callN U.gl U.T (n + 1) f .un ds := rfl
  rw [e, call_plain hT hio] at hd
  split at hd
  · omega
  · exact absurd rfl hd
/-- a def whose first parameter's thing is changed -/
theorem fn_io0 {n : Nat} {f nm qual : Str} {fn : Fn} {st : Stmt} {a : Addr} {fd : FuncData} {ps N : List Str} (k : EnOk (U.en n)) (xo : XOk (U.en n)) (xi : XiOk (U.en n)) (fo : FnsOk (U.en n)) (hT : U.T f = some fn) (hio : fn.io = true)
    (hF : Fun U.w.K nm qual st a fd) (S : FnScope N ps (defScope st)) (hN : N.length = fn.ns) (hp : ps.length = fn.np) (hc : chkSs ⟨N, defScope st, true, U.fs, U.fi, fn.io, U.w.xs, cellsOf (defScope st), U.gn, U.fm, U.fk⟩ fn.body (defBody st) = true) :
    FnOk U.P U.wd U.w.K U.mg U.base (L2.CX U.P U.wd) (2 * (n + 1)) a fd ps (spI (U.en (n + 1)) f ps.length) ∧ (∀ io ds, (U.en (n + 1)).call f io ds ≠ .bad → ds.length + 1 = ps.length) ∧ ∀ c x ds, (U.en (n + 1)).call f (.exn c x) ds = .bad := by
  have hcall : ∀ io ds, callN U.gl U.T (n + 1) f io ds = if ds.length + 1 = fn.np then (match pinS io with | some x => endR fn io (evMs U.gl (callN U.gl U.T n) fn.body (x :: ds.map Slot.sh ++ List.replicate (fn.ns - fn.np) .un)) | none => .bad) else .bad := fun io ds => by
    simp only [callN, hT, frame, hio, if_true]
    split
    · rename_i s e
      split at e
      · rename_i hl
        rw [if_pos hl]
        cases hp : pinS io with
        | none => rw [hp] at e; cases e
        | some x => rw [hp] at e; cases e; rfl
      · cases e
    · rename_i e
      split at e
      · rename_i hl
        rw [if_pos hl]
        cases hp : pinS io with
        | none => rfl
        | some x => rw [hp] at e; cases e
      · rename_i hl
        rw [if_neg hl]
  have e0 : ∀ io ds, (U.en (n + 1)).call f io ds = callN U.gl U.T (n + 1) f io ds := fun _ _ => rfl
  refine ⟨Fun.okX hF S (fun vs H Q Ex h => h.1) fun cdv A outer s H vs Q Ex hr hsp => ?_, fun io ds hd => ?_, fun c x ds => ?_⟩
  · obtain ⟨hl, F, v0, rest, ds, io, A0, rfl, sf, hs, nd, r, hq⟩ := hsp
    have hlen : ds.length + 1 = fn.np := by rw [← r.length, ← hp, ← hl]; rfl
    rw [e0, hcall, if_pos hlen] at hq
    cases hpin : pinS io with
    | none => rw [hpin] at hq; exact hq.elim
    | some x =>
      rw [hpin] at hq
      have hx := pinS_unpin hpin
      let G : Gs := ⟨F, H, A0, some v0⟩
      have hpre : ps.length ≤ N.length := by
        have := congrArg List.length S.pre
        rw [List.length_take] at this
        omega
      refine ⟨tSs (U.en n) [] (fun cls d _ H => Ex cls d H) G fn.body, snd_ss k fo xo xi (good_fn (ps := ps) (G := G) S hr (by rw [hio]; rfl) fun e => by cases e) hc, ?_⟩
      refine ⟨_, F, own0 A0, rs_start1 (m := fn.ns - fn.np) sf r (x := x) (by rw [hx]; exact hs.pin) nd (by omega), ⟨.refl, fun v e => by cases e; exact start_get rfl⟩, ?_⟩
      show PostS U.w [] _ G F (evMs U.gl (callN U.gl U.T n) fn.body (x :: ds.map Slot.sh ++ List.replicate (fn.ns - fn.np) .un)) _
      have hq' : match endR fn io (evMs U.gl (callN U.gl U.T n) fn.body (x :: ds.map Slot.sh ++ List.replicate (fn.ns - fn.np) .un)) with
        | .ret d fr io' => ∀ F' H' A' v, Sub F' H' → Frm false F H (own0 A0) F' H' (own0 A') → SlotR U.w [] F' H' io' (some v0) A' → A'.Nodup → Val U.w H F' H' (own0 A') v d fr → Q v H'
        | .ex c x io' => ∀ F' H' A' dd, Sub F' H' → Frm false F H (own0 A0) F' H' (own0 A') → SlotR U.w [] F' H' io' (some v0) A' → A'.Nodup → ExD U.w F' c x dd → Ex (.ref (U.w.ca c)) dd H'
        | .bad => False := hq
      clear hq
      revert hq'
      generalize evMs U.gl (callN U.gl U.T n) fn.body (x :: ds.map Slot.sh ++ List.replicate (fn.ns - fn.np) .un) = rr
      intro hq
      -- the first slot at the end
      have back : ∀ {s1 : Sg} {σ' : L2.St} {F' H' : Hp} {own' : Nat → List Addr}, Inb G σ' F' H' own' → RS U.w [] s1 F' σ' H' own' → SlotR U.w [] F' H' (backIo fn io s1) (some v0) (own' 0) ∧ (own' 0).Nodup ∧ Frm false F H (own0 A0) F' H' (own0 (own' 0)) := fun {s1 σ' F' H' own'} i rs => by
        have hv := i.v0 v0 rfl
        refine ⟨?_, rs.nd 0, ⟨i.fr.ff, i.fr.hh, fun z => (Bool.false_ne_true z).elim, fun j b hb => ?_, fun z => (Bool.false_ne_true z).elim, i.fr.dm⟩⟩
        · unfold backIo
          rw [hio, if_pos rfl]
          have h0 : 0 < s1.length := by rw [rs.len]; exact (List.getElem?_eq_some_iff.mp hv).1
          obtain ⟨o, e1, r1⟩ := rs.sl 0 _ (List.getElem?_eq_getElem h0)
          rw [hv] at e1
          cases e1
          have : s1.getD 0 Slot.un = s1[0] := by rw [List.getD_eq_getElem?_getD, List.getElem?_eq_getElem h0]; rfl
          rw [this]
          exact r1.pin
        · unfold own0 at hb
          split at hb
          · rename_i hj
            subst hj
            exact i.fr.oo 0 b hb
          · cases hb
      cases rr with
      | bad => exact hq
      | ex c x' s1 =>
        intro σ' F' H' own' dd _ i rs hx'
        obtain ⟨b1, b2, b3⟩ := back i rs
        exact hq F' H' (own' 0) dd rs.fh b3 b1 b2 hx'
      | ok fl s1 =>
        cases fl with
        | bk => exact hq.elim
        | ct => exact hq.elim
        | nx =>
          intro σ' F' H' own' _ i rs
          obtain ⟨b1, b2, b3⟩ := back i rs
          exact hq F' H' (own' 0) .non rs.fh b3 b1 b2 (.inl ⟨rfl, .non⟩)
        | ret d fr =>
          intro σ' F' H' own' v _ i rs hv
          obtain ⟨b1, b2, b3⟩ := back i rs
          exact hq F' H' (own' 0) v rs.fh b3 b1 b2 hv
  · rw [e0, hcall] at hd
    split at hd
    · omega
    · exact absurd rfl hd
  · rw [e0, hcall]
    split <;> rfl
theorem fn_io {n : Nat} {f : Str} {fn : Fn} (k : EnOk (U.en n)) (xo : XOk (U.en n)) (xi : XiOk (U.en n)) (fo : FnsOk (U.en n)) (hT : U.T f = some fn) (hio : fn.io = true) (h : FnD U f fn) :
    ∃ a fd ps, U.mg f = some (.ref a) ∧ PySem.W.keepIn U.w.K (.ref a) = true ∧ Binds U.w.K fd ps [] ∧ FnOk U.P U.wd U.w.K U.mg U.base (L2.CX U.P U.wd) (2 * (n + 1)) a fd ps (spI (U.en (n + 1)) f ps.length) ∧ (∀ io ds, (U.en (n + 1)).call f io ds ≠ .bad → ds.length + 1 = ps.length) ∧ ∀ c x ds, (U.en (n + 1)).call f (.exn c x) ds = .bad := by
  obtain ⟨st, qual, a, fd, ps, N, hF, hm, hb, S, hN, hp, hc⟩ := h.ex
  obtain ⟨h1, h2, h3⟩ := fn_io0 k xo xi fo hT hio hF S hN hp hc
  exact ⟨a, fd, ps, hm, hF.kp, hb, h1, h2, h3⟩
theorem fn_zero {P : Program} {w : World} {K : PySem.W.Frag} {mg : Str → Option Value} {base : Heap} {CX : CXT} {k : Nat} {a : Addr} {fd : FuncData} {ps : List Str} {sp : Sp} (h : ∀ vs H Q E, ¬ sp vs H Q E) : FnOk P w K mg base CX k a fd ps sp :=
  ⟨fun vs H Q E q => (h vs H Q E q).elim, fun A outer s H args us vs Q E _ _ _ _ q => (h vs H Q E q).elim⟩
/-- all of them, at every depth -/
theorem fns_all (k : EnOk (U.en 0)) (xo : XOk (U.en 0)) (xi : XiOk (U.en 0)) (hf : ∀ f ∈ U.fs, ∃ fn, U.T f = some fn ∧ fn.io = false ∧ FnD U f fn) (hi : ∀ f ∈ U.fi, ∃ fn, U.T f = some fn ∧ fn.io = true ∧ FnD U f fn)
    (hM : ∀ y ∈ U.fm, ∃ fn, U.T y.1 = some fn ∧ fn.io = true ∧ FnM U y.1 y.2.1 y.2.2 fn) (hK : ∀ y ∈ U.fk, ∃ fn, U.T y.1 = some fn ∧ fn.io = true ∧ FnK U y.1 y.2 fn) : ∀ n, FnsOk (U.en n)
  | 0 => by
    refine ⟨fun f hm => ?_, fun f hm => ?_, fun y hy => ?_, fun y hy => ?_⟩
    · obtain ⟨fn, _, _, h⟩ := hf f hm
      obtain ⟨st, qual, a, fd, ps, N, hF, h1, hb, _⟩ := h.ex
      exact ⟨a, fd, ps, h1, hF.kp, hb, fn_zero fun vs H Q E ⟨_, F, ds, _, _, z⟩ => z, fun ds h => absurd rfl h⟩
    · obtain ⟨fn, _, _, h⟩ := hi f hm
      obtain ⟨st, qual, a, fd, ps, N, hF, h1, hb, _⟩ := h.ex
      exact ⟨a, fd, ps, h1, hF.kp, hb, fn_zero fun vs H Q E ⟨_, F, v0, rest, ds, io, A, _, _, _, _, _, z⟩ => z, fun io ds h => absurd rfl h, fun _ _ _ => rfl⟩
    · obtain ⟨fn, _, _, h⟩ := hM y hy
      obtain ⟨st, qual, a, fd, ps, N, hF, h0, h1, h2, hb, _⟩ := h.ex
      exact ⟨a, fd, ps, h0, h1, h2, hb, fn_zero fun vs H Q E ⟨_, F, v0, rest, ds, io, A, _, _, _, _, _, z⟩ => z, fun io ds h => absurd rfl h, fun _ _ _ => rfl⟩
    · obtain ⟨fn, _, _, h⟩ := hK y hy
      obtain ⟨st, nm, qual, a, fd, ps, N, hF, h0, h1, h2, hb, _⟩ := h.ex
      exact ⟨a, fd, ps, h0, h1, h2, hb, fn_zero fun vs H Q E ⟨_, F, v0, rest, ds, io, A, _, _, _, _, _, z⟩ => z, fun io ds h => absurd rfl h⟩
  | n + 1 => by
    have ih := fns_all k xo xi hf hi hM hK n
    refine ⟨fun f hm => ?_, fun f hm => ?_, fun y hy => ?_, fun y hy => ?_⟩
    · obtain ⟨fn, h1, h2, h3⟩ := hf f hm
      exact fn_plain k.at xo.at xi.at ih h1 h2 h3
    · obtain ⟨fn, h1, h2, h3⟩ := hi f hm
      exact fn_io k.at xo.at xi.at ih h1 h2 h3
    · obtain ⟨fn, h1, h2, h3⟩ := hM y hy
      obtain ⟨st, qual, a, fd, ps, N, hF, k0, k1, k2, hb, S, hN, hp, hc⟩ := h3.ex
      obtain ⟨q1, q2, q3⟩ := fn_io0 k.at xo.at xi.at ih h1 h2 hF S hN hp hc
      exact ⟨a, fd, ps, k0, k1, k2, hb, q1, q2, q3⟩
    · obtain ⟨fn, h1, h2, h3⟩ := hK y hy
      obtain ⟨st, nm, qual, a, fd, ps, N, hF, k0, k1, k2, hb, S, hN, hp, hc⟩ := h3.ex
      obtain ⟨q1, q2, q3⟩ := fn_io0 k.at xo.at xi.at ih h1 h2 hF S hN hp hc
      exact ⟨a, fd, ps, k0, k1, k2, hb, q1, q2⟩
end
end IL
end
section
set_option maxHeartbeats 4000000
namespace IL
open PySem PySem.Spec PyProof.Rows L2
def refs1 (g : Addr → Option Obj) (as : List Addr) : List Addr := as.flatMap fun a => match g a with
  | some o => He.refsO o
  | none => []
def asN (g : Addr → Option Obj) : Nat → List Addr → List Addr
  | 0, as => as
  | n + 1, as => as ++ asN g n (refs1 g as)
/-- is the value the data? -/
def valB (K : PySem.W.Frag) : Nat → Value → D → Bool
  | _, .none, .non => true
  | _, .bool b, .bl c => b == c
  | _, .int i _, .int j => i == j
  | _, .str x _, .str y => x == y && PyData.strOk x && decide (x.length ≤ limN)
  | n + 1, .ref a, .tup ds => (match K.lookup a with
    | some ⟨.type c, none, .seq its _, _⟩ => c == "tuple" && decide (its.size ≤ limN) && valBs n its.toList ds
    | _ => false)
  | _, _, _ => false
where valBs (n : Nat) : List Value → List D → Bool
  | [], [] => true
  | u :: us, d :: ds => valB K n u d && valBs n us ds
  | _, _ => false
def gloB (K : PySem.W.Frag) (x : Str) (d : D) : Bool := match PySem.W.nsIn K mainGlobals x with
  | some (some u) => valB K 8 u d
  | _ => false
def clsB (K : PySem.W.Frag) (C : Addr) : Bool := match K.lookup C with
  | some ⟨.type c, _, .cls cd, sl⟩ => (match cd.mro, sl.toList with
    | .ref C' :: bm, [_, _, _, _, some (.builtin n), _] => c == "type" && (C' == C && (n == "ValueError.__new__" && (!cd.hasDel && (PySem.HandSPX.refsVE bm && cd.hasDict))))
    | _, _ => false)
  | _ => false
theorem clsB_ok {K : PySem.W.Frag} {C : Addr} (h : clsB K C = true) : ∃ nm q N bs bm sn sub ab col dd k0 k1 k2 k3 k5, K.lookup C = some (excClassObj nm q C N bs bm true sn sub ab col dd k0 k1 k2 k3 k5 "ValueError.__new__") ∧ PySem.HandSPX.refsVE bm = true := by
  unfold clsB at h
  split at h
  · rename_i c dd cd sl ho
    split at h
    · rename_i C' bm k0 k1 k2 k3 n k5 hm hs
      simp only [Bool.and_eq_true, beq_iff_eq, Bool.not_eq_true'] at h
      obtain ⟨rfl, rfl, rfl, hdel, hv, hd⟩ := h
      obtain ⟨nm, bs, mro, ns, qn, hd', sn, sub, ab, col, del⟩ := cd
      dsimp only at hm hdel hd
      subst hm hdel hd
      have hsl : sl = #[k0, k1, k2, k3, some (.builtin "ValueError.__new__"), k5] := by
        obtain ⟨l⟩ := sl
        simp only at hs
        rw [hs]
      subst hsl
      exact ⟨nm, qn, ns, bs, bm, sn, sub, ab, col, dd, k0, k1, k2, k3, k5, ho, hv⟩
    · cases h
  · cases h
structure ERow where
  c : Str
  st : Stmt
def ERow.dd (r : ERow) : He.DefD := ⟨(r.c, some "__init__"), "__init__", r.c ++ (".__init__" : Str), defArgs r.st, defBody r.st, defScope r.st, [], []⟩
/-- its text is the plain one -/
def ESh (r : ERow) : Prop := ∃ (fd : Fd) (p1 p2 q1 q2 q3 q4 : Pos), fldOf r.c = some fd.s ∧ defArgs r.st = iA fd.s p1 p2 ∧ defBody r.st = iB fd.s q1 q2 q3 q4 ∧ defScope r.st = iS fd.s
def erB (K : PySem.W.Frag) (r : ERow) : Bool :=
  clsB K (He.ga K r.c) && (xfB K (He.ga K r.c) && (He.eqO (PySem.W.findIn K (.ref (He.ga K r.c)) "__setattr__") (some (some (.builtin "object.__setattr__"))) &&
  (He.eqO (PySem.W.findIn K (.ref (He.ga K r.c)) ((fldOf r.c).getD "")) (some none) && (He.eqO (PySem.W.findIn K (.ref (He.ga K r.c)) "__init__") (some (some (.ref (He.ma K (He.ga K r.c) "__init__")))) &&
  (decide (PySem.W.typeIn K (.ref (He.ma K (He.ga K r.c) "__init__")) = some (.type "function")) && (PySem.W.keepIn K (.ref (He.ga K r.c)) && (decide (PySem.W.subIn K (.ref (He.ga K r.c)) (.type "BaseException") = some true) && decide (PySem.W.typeIn K (.ref (He.ga K r.c)) = some (.type "type")))))))))
structure ErOk (K : PySem.W.Frag) (r : ERow) : Prop where
  cls : clsB K (He.ga K r.c) = true
  xf : xfB K (He.ga K r.c) = true
  sa : PySem.W.findIn K (.ref (He.ga K r.c)) "__setattr__" = some (some (.builtin "object.__setattr__"))
  no : PySem.W.findIn K (.ref (He.ga K r.c)) ((fldOf r.c).getD "") = some none
  ini : PySem.W.findIn K (.ref (He.ga K r.c)) "__init__" = some (some (.ref (He.ma K (He.ga K r.c) "__init__")))
  ty : PySem.W.typeIn K (.ref (He.ma K (He.ga K r.c) "__init__")) = some (.type "function")
  kp : PySem.W.keepIn K (.ref (He.ga K r.c)) = true
  sb : PySem.W.subIn K (.ref (He.ga K r.c)) (.type "BaseException") = some true
  tc : PySem.W.typeIn K (.ref (He.ga K r.c)) = some (.type "type")
theorem erB_ok {K : PySem.W.Frag} {r : ERow} (h : erB K r = true) : ErOk K r := by
  obtain ⟨h1, h⟩ := Bool.and_eq_true_iff.mp h
  obtain ⟨h2, h⟩ := Bool.and_eq_true_iff.mp h
  obtain ⟨h3, h⟩ := Bool.and_eq_true_iff.mp h
  obtain ⟨h4, h⟩ := Bool.and_eq_true_iff.mp h
  obtain ⟨h5, h⟩ := Bool.and_eq_true_iff.mp h
  obtain ⟨h6, h⟩ := Bool.and_eq_true_iff.mp h
  obtain ⟨h7, h⟩ := Bool.and_eq_true_iff.mp h
  obtain ⟨h8, h9⟩ := Bool.and_eq_true_iff.mp h
  exact ⟨h1, h2, He.eqO_ok h3, He.eqO_ok h4, He.eqO_ok h5, of_decide_eq_true h6, h7, of_decide_eq_true h8, of_decide_eq_true h9⟩
structure Gd where
  gs : List (Str × D)
  es : List ERow
def obsM (fa : List He.Fa) (fn : List He.DefD) (gs : Gd) (K : PySem.W.Frag) : He.AlD := ((fa.all fun f => f.ok K) && ((fn.all fun d => d.ok K) && ((gs.gs.all fun p => gloB K p.1 p.2) && gs.es.all (erB K))), fn.map fun d => He.fnW K d.at_)
def SaysM (fa : List He.Fa) (fn : List He.DefD) (gs : Gd) (K : PySem.W.Frag) : Prop := obsM fa fn gs K = He.valD fn
def obsMG (n : Nat) (fa : List He.Fa) (fn : List He.DefD) (gs : Gd) (g : Addr → Option Obj) : He.AlD := obsM fa fn gs (He.frG g (asN g n [mainGlobals]))
def hookM (n : Nat) (fa : List He.Fa) (fn : List He.DefD) (gs : Gd) : PySem.W.Hook where
  α := He.AlD
  obs := fun s => obsMG n fa fn gs s.heap.get?
  val := fun _ => He.valD fn
  says := fun _ h => ∃ K : PySem.W.Frag, K.In h ∧ SaysM fa fn gs K
  of := fun _ _ e => ⟨_, He.frG_in, e⟩
  keeps := fun _ _ _ ⟨K, hK, c⟩ k => ⟨K, PySem.W.Frag.In.keeps hK k, c⟩
theorem obsMG_eq {n : Nat} {fa : List He.Fa} {fn : List He.DefD} {gs : Gd} {g : Addr → Option Obj} {s : Shared} (h : ∀ a, g a = s.heap.get? a) : obsMG n fa fn gs g = (hookM n fa fn gs).obs s := by
  have e : g = s.heap.get? := funext h
  rw [e] <;> rfl
section
variable {fa : List He.Fa} {fn : List He.DefD} {gs : Gd} {K : PySem.W.Frag}
theorem SaysM.parts (c : SaysM fa fn gs K) : (∀ f ∈ fa, f.ok K = true) ∧ (∀ d ∈ fn, d.ok K = true) ∧ (∀ p ∈ gs.gs, gloB K p.1 p.2 = true) ∧ (∀ r ∈ gs.es, erB K r = true) ∧ fn.map (fun d => He.fnW K d.at_) = fn.map He.DefD.val := by
  have c1 : ((fa.all fun f => f.ok K) && ((fn.all fun d => d.ok K) && ((gs.gs.all fun p => gloB K p.1 p.2) && gs.es.all (erB K)))) = true := congrArg (fun z : He.AlD => z.1) c
  have c2 : fn.map (fun d => He.fnW K d.at_) = fn.map He.DefD.val := congrArg (fun z : He.AlD => z.2) c
  simp only [Bool.and_eq_true, List.all_eq_true] at c1
  exact ⟨c1.1, c1.2.1, c1.2.2.1, c1.2.2.2, c2⟩
theorem SaysM.def_ (c : SaysM fa fn gs K) {d : He.DefD} (h : d ∈ fn) : ∃ fd, FunD K d.name d.qual d.params d.body d.scope (d.dvs K) (d.kws K) (He.fAd K d.at_) fd := by
  obtain ⟨_, c2, _, _, e⟩ := c.parts
  obtain ⟨i, hi⟩ := List.getElem?_of_mem h
  have e2 : (fn.map fun d => He.fnW K d.at_)[i]? = (fn.map He.DefD.val)[i]? := by rw [e]
  rw [List.getElem?_map, List.getElem?_map, hi] at e2
  exact He.DefD.funD (Option.some.inj e2) (c2 d h)
end
mutual
theorem valB_ok {w : Wo} : ∀ {n : Nat} {u : Value} {d : D}, valB w.K n u d = true → ∃ v, RelV v u ∧ ∀ F, Rep w F v d
  | n, .none, d, h => by
    cases d <;> simp [valB] at h
    exact ⟨.non, rfl, fun _ => .non⟩
  | n, .bool b, d, h => by
    cases d <;> simp [valB] at h
    subst h
    exact ⟨.bl b, rfl, fun _ => .bl b⟩
  | n, .int i t, d, h => by
    cases d <;> simp [valB] at h
    subst h
    exact ⟨.int i, ⟨t, rfl⟩, fun _ => .int i⟩
  | n, .str x t, d, h => by
    cases d <;> simp [valB] at h
    obtain ⟨⟨rfl, h2⟩, h3⟩ := h
    exact ⟨.str x, ⟨t, rfl⟩, fun _ => .str x h2 h3⟩
  | n + 1, .ref a, d, h => by
    cases d with
    | tup ds =>
      simp only [valB] at h
      split at h
      · rename_i c its m sl hl
        simp only [Bool.and_eq_true, beq_iff_eq, decide_eq_true_eq] at h
        obtain ⟨⟨rfl, h2⟩, h3⟩ := h
        obtain ⟨vs, r, q⟩ := valBs_ok h3
        have hlen : vs.length ≤ limN := by rw [r.length, Array.length_toList]; exact h2
        exact ⟨.ref a, rfl, fun F => .tup (.inr ⟨_, its, m, hl, rfl, rfl, rfl, Nat.le_trans h2 limN_le, r⟩) (q F) hlen⟩
      · cases h
    | _ => simp [valB] at h
  | 0, .ref a, d, h => by cases d <;> simp [valB] at h
  | n, .bytes _ _, d, h => by cases d <;> simp [valB] at h
  | n, .float _ _, d, h => by cases d <;> simp [valB] at h
  | n, .type _, d, h => by cases d <;> simp [valB] at h
  | n, .builtin _, d, h => by cases d <;> simp [valB] at h
  | n, .ellipsis, d, h => by cases d <;> simp [valB] at h
  | n, .notImplemented, d, h => by cases d <;> simp [valB] at h
theorem valBs_ok {w : Wo} : ∀ {n : Nat} {us : List Value} {ds : List D}, valB.valBs w.K n us ds = true → ∃ vs, Vals vs us ∧ ∀ F, Reps w F vs ds
  | n, [], [], _ => ⟨[], .nil, fun _ => .nil⟩
  | n, [], _ :: _, h => by simp [valB.valBs] at h
  | n, _ :: _, [], h => by simp [valB.valBs] at h
  | n, u :: us, d :: ds, h => by
    simp only [valB.valBs, Bool.and_eq_true] at h
    obtain ⟨v, r, q⟩ := valB_ok h.1
    obtain ⟨vs, rs, qs⟩ := valBs_ok h.2
    exact ⟨v :: vs, .cons r rs, fun F => .cons (q F) (qs F)⟩
end
structure Row where
  x : Str
  st : Stmt
  ps : List Str
  N : List Str
  fn : Fn
  /-- a method: its class, its name, its qualified name -/
  cm : Option (Str × Str × Str)
def Row.nm (r : Row) : Str := match r.cm with | some y => y.2.1 | none => r.x
def Row.q (r : Row) : Str := match r.cm with | some y => y.2.2 | none => r.x
def Row.at_ (r : Row) : Str × Option Str := match r.cm with | some y => (y.1, some y.2.1) | none => (r.x, none)
def Row.dd (r : Row) : He.DefD := ⟨r.at_, r.nm, r.q, defArgs r.st, defBody r.st, defScope r.st, [], []⟩
abbrev iniS : Str := "__init__"
def fmOne (r : Row) : Option (Str × Str × Str) := match r.cm with | some (c, m, _) => if m = iniS then none else some (r.x, c, m) | none => none
def fkOne (r : Row) : Option (Str × Str) := match r.cm with | some (c, m, _) => if m = iniS then some (r.x, c) else none | none => none
def fmOf (rows : List Row) : List (Str × Str × Str) := rows.filterMap fmOne
def fkOf (rows : List Row) : List (Str × Str) := rows.filterMap fkOne
def clOf (rows : List Row) : List Str := (fkOf rows).map (·.2)
def fnScB (N ps : List Str) (sc : Scope) : Bool := (match sc.kind with | .function => true | _ => false) && !sc.isCoroutine && !sc.isGenerator && decide N.Nodup && (N.take ps.length == ps) &&
  (ps.all fun x => sc.names.lookup x == some .local || sc.names.lookup x == some .cell) && (sc.names.all fun y => y.2 != .free)
theorem fnScB_ok {N ps : List Str} {sc : Scope} (h : fnScB N ps sc = true) : FnScope N ps sc := by
  simp only [fnScB, Bool.and_eq_true, Bool.not_eq_true', decide_eq_true_eq, beq_iff_eq, List.all_eq_true, Bool.or_eq_true, bne_iff_ne] at h
  obtain ⟨⟨⟨⟨⟨⟨h1, h2⟩, h3⟩, h4⟩, h5⟩, h6⟩, h7⟩ := h
  refine ⟨?_, h2, h3, h4, h5, fun x hx => h6 x hx, fun y hy => h7 y hy⟩
  cases hk : sc.kind <;> rw [hk] at h1 <;> first | rfl | cases h1
def fsOf (rows : List Row) : List Str := (rows.filter fun r => r.cm.isNone && !r.fn.io).map (·.x)
def fiOf (rows : List Row) : List Str := (rows.filter fun r => r.cm.isNone && r.fn.io).map (·.x)
def Row.ok (fs fi xs gn : List Str) (fm : List (Str × Str × Str)) (fk : List (Str × Str)) (r : Row) : Bool := (match r.cm with | some (c, m, _) => r.fn.io && (fk.map (·.2)).contains c && !(clsF c).contains m | none => true) && fnScB r.N r.ps (defScope r.st) && r.N.length == r.fn.ns && r.ps.length == r.fn.np && chkSs ⟨r.N, defScope r.st, true, fs, fi, r.fn.io, xs, cellsOf (defScope r.st), gn, fm, fk⟩ r.fn.body (defBody r.st)
def rowsOk (xs gn : List Str) (rows : List Row) : Bool := decide (rows.map (·.x)).Nodup && rows.all (Row.ok (fsOf rows) (fiOf rows) xs gn (fmOf rows) (fkOf rows))
def BindP (r : Row) : Prop := ∀ (kV doc pm : Value) (an : Option Addr) (cdv ct : Value) (us : List Value), us.length = r.ps.length → bindArgs (PySem.W.fnOf r.nm r.q (defArgs r.st) (defBody r.st) (defScope r.st) .none kV doc pm an cdv ct) ⟨us, []⟩ = pure (r.ps.zip us)
def gloOf (r : Row) : Option He.Fa := match r.cm with | some _ => none | none => some (.glo r.x)
def metOf (r : Row) : Option He.Fa := match r.cm with | some (c, m, _) => if m = iniS then some (.mkr c) else some (.meth c m) | none => none
def faC (rows : List Row) : List He.Fa := (clOf rows).map He.Fa.glo ++ (clOf rows).map He.Fa.cls ++ ((clOf rows).flatMap fun c => (clsF c).map (He.Fa.noat c)) ++ rows.filterMap metOf
def faOf (rows : List Row) (xs : List Str) : List He.Fa := faC rows ++ bltNames.map He.Fa.free ++ rows.filterMap gloOf ++ xs.map He.Fa.glo ++ (xs.filter fun c => fldOf c == none).map He.Fa.exc ++ xs.flatMap fun c => xs.map fun d => He.Fa.exm c d (above c d)
def hookL (n : Nat) (rows : List Row) (xs : List Str) (es : List ERow) (gs : List (Str × D)) : PySem.W.Hook := hookM n (faOf rows xs) (rows.map Row.dd ++ es.map ERow.dd) ⟨gs, es⟩
def obL (n : Nat) (rows : List Row) (xs : List Str) (es : List ERow) (gs : List (Str × D)) (s : PySem.W.SharedT) : He.AlD := obsMG n (faOf rows xs) (rows.map Row.dd ++ es.map ERow.dd) ⟨gs, es⟩ (HandSHeadRun.getT s)
theorem obL_eq {n : Nat} {rows : List Row} {xs : List Str} {es : List ERow} {gs : List (Str × D)} (s : PySem.W.SharedT) : obL n rows xs es gs s = (hookL n rows xs es gs).obs s.abs := obsMG_eq (HandSHeadRun.getT_eq s)
theorem Fun.ofD {K : PySem.W.Frag} {x qual : Str} {st : Stmt} {a : Addr} {fd : FuncData} (F : FunD K x qual (defArgs st) (defBody st) (defScope st) [] [] a fd) : Fun K x qual st a fd := by
  obtain ⟨⟨oc, od, dV, kV, doc, pm, an, cdv, ct, osl, h1, h2, h3, hD, _⟩, kp⟩ := F
  rcases hD with ⟨_, rfl⟩ | ⟨e, _⟩
  · exact ⟨⟨oc, od, kV, doc, pm, an, cdv, ct, osl, h1, h2, h3⟩, kp⟩
  · exact absurd rfl e
/-- what is let out is wished for -/
def CXe : CXT := fun _ _ _ E _ _ => ∃ cls d H', E cls d H'
theorem fn_cxe {P : Program} {w : World} {K : PySem.W.Frag} {mg : Str → Option Value} {base : Heap} {k : Nat} {f : Addr} {fd : FuncData} {ps : List Str} {sp : Sp} (F : FnOk P w K mg base (L2.CX P w) k f fd ps sp) : FnOk P w K mg base CXe k f fd ps sp :=
  ⟨F.len, fun A outer s H args us vs Q E hr e0 hb r h => codeAny_mono (F.run A outer s H args us vs Q E hr e0 hb r h) fun r s' hq => by
    cases r with
    | error e =>
      obtain ⟨a, B, H', cls, d, _, _, _, _, _, _, _, z⟩ := hq
      exact ⟨cls, d, H', z⟩
    | ok fl => cases fl <;> exact hq⟩
theorem hCX (H : Hp) (s : Shared) (e : Value) (s' : Shared) (h : CXe [] H s (fun _ _ _ => False) e s') : False := by
  obtain ⟨_, _, _, z⟩ := h
  exact z.elim
/-- a law's end: what the evaluator gives at the script -/
theorem law_facts {P : Program} {wd : World} {rows : List Row} {xs : List Str} {es : List ERow} {gs : List (Str × D)} {h : Heap} {mg : Str → Option Value} {fa : Addr} {K : PySem.W.Frag} {x : Str} {most n : Nat} {lw : Row}
    (KX : K.In h) (G : h.Ns mainGlobals mg) (c : SaysM (faOf rows xs) (rows.map Row.dd ++ es.map ERow.dd) ⟨gs, es⟩ K) (hes : ∀ r ∈ es, ESh r) (hxe : ∀ c ∈ xs, fldOf c = none ∨ c ∈ es.map (·.c)) (hmg : mg ("law" : Str) = some (.ref fa)) (hok : rowsOk xs (gs.map (·.1)) rows = true) {gl : Str → Option D} {T : Str → Option Fn} (hg : ∀ p ∈ gs, gl p.1 = some p.2) (hTr : ∀ r ∈ rows, T r.x = some r.fn) (hb : ∀ r ∈ rows, BindP r)
    (hl : lw ∈ rows) (hcm : lw.cm = none) (hx : lw.x = ("law" : Str)) (hio : lw.fn.io = false) (hp : lw.ps = [x]) (hm : most ≤ limN)
    (val : ∀ ns : List Int, ns.length ≤ most → ∃ fr io, callN gl T (n + 1) ("law" : Str) .un [.lst (ns.map D.int)] = .ret (.bl true) fr io) :
    ∃ (K : PySem.W.Frag) (fd : FuncData) (sp : Sp), K.In h ∧ (∀ (s : Shared) (u : Value), BindsTo s fd ⟨[u], []⟩ [(x, u)]) ∧
      (∀ (H : Hp) (a : Addr) (ns : List Int), ns.length ≤ most → Only H → SqL K H a (ns.map V.int) → sp [.ref a] H (fun v _ => v = .bl true) fun _ _ _ => False) ∧
      ∀ base : Heap, K.In base → base.Ns mainGlobals mg → FnOk P wd K mg base CXe (2 * (n + 1)) fa fd [x] sp := by
  obtain ⟨c1, c2, c3, c4, _⟩ := c.parts
  simp only [rowsOk, Bool.and_eq_true, decide_eq_true_eq, List.all_eq_true] at hok
  obtain ⟨nd, hrows⟩ := hok
  let w : Wo := ⟨K, He.ga K, fldOf, xs, clOf rows⟩
  have fm : ∀ {f : He.Fa}, f ∈ faOf rows xs → f.ok K = true := fun h => c1 _ h
  have m1 : ∀ {y : Str}, y ∈ bltNames → mg y = none := fun {y} h => He.free_ok KX G (fm (by simp only [faOf, List.mem_append]; exact .inl (.inl (.inl (.inl (.inr (List.mem_map_of_mem h)))))))
  have m2 : ∀ {r : Row}, r ∈ rows → r.cm = none → mg r.x = some (.ref (He.ga K r.x)) := fun {r} h hn => He.glo_ok KX G (fm (by simp only [faOf, List.mem_append]; exact .inl (.inl (.inl (.inr (List.mem_filterMap.mpr ⟨r, h, by unfold gloOf; rw [hn]⟩))))))
  have mc : ∀ {f : He.Fa}, f ∈ faC rows → f.ok K = true := fun h => fm (by simp only [faOf, List.mem_append]; exact .inl (.inl (.inl (.inl (.inl h)))))
  have m3 : ∀ {y : Str}, y ∈ xs → mg y = some (.ref (He.ga K y)) := fun {y} h => He.glo_ok KX G (fm (by simp only [faOf, List.mem_append]; exact .inl (.inl (.inr (List.mem_map_of_mem h)))))
  have m4 : ∀ {y : Str}, y ∈ xs → fldOf y = none → _ := fun {y} h hn => He.exc_ok (K := K) (x := y) (fm (by simp only [faOf, List.mem_append]; exact .inl (.inr (List.mem_map_of_mem (List.mem_filter.mpr ⟨h, by simpa using hn⟩)))))
  have m6 : ∀ {y : Str}, y ∈ xs → fldOf y ≠ none → ∃ r ∈ es, r.c = y ∧ ErOk K r := fun {y} h hn => by
    rcases hxe y h with z | z
    · exact absurd z hn
    · obtain ⟨r, hr, rfl⟩ := List.mem_map.mp z
      exact ⟨r, hr, rfl, erB_ok (c4 r hr)⟩
  have m7 : ∀ {y : Str}, y ∈ xs → PySem.W.subIn K (.ref (He.ga K y)) (.type "BaseException") = some true ∧ PySem.W.typeIn K (.ref (He.ga K y)) = some (.type "type") ∧ PySem.W.keepIn K (.ref (He.ga K y)) = true := fun {y} h => by
    by_cases hn : fldOf y = none
    · exact ⟨(m4 h hn).2.2.1, (m4 h hn).2.2.2, (m4 h hn).2.1⟩
    · obtain ⟨r, hr, rfl, k⟩ := m6 h hn
      exact ⟨k.sb, k.tc, k.kp⟩
  have m5 : ∀ {y z : Str}, y ∈ xs → z ∈ xs → _ := fun {y z} h h2 => He.exm_ok (K := K) (x := y) (y := z) (b := above y z) (fm (by simp only [faOf, List.mem_append]; exact .inr (List.mem_flatMap.mpr ⟨y, h, List.mem_map.mpr ⟨z, h2, rfl⟩⟩)))
  have F : ∀ r ∈ rows, ∃ fd, FunD K r.nm r.q (defArgs r.st) (defBody r.st) (defScope r.st) [] [] (He.fAd K r.at_) fd := fun r h => c.def_ (d := r.dd) (List.mem_append_left _ (List.mem_map_of_mem h))
  have FE : ∀ r ∈ es, ∃ fd, FunD K "__init__" (r.c ++ (".__init__" : Str)) (defArgs r.st) (defBody r.st) (defScope r.st) [] [] (He.ma K (He.ga K r.c) "__init__") fd := fun r h => c.def_ (d := r.dd) (List.mem_append_right _ (List.mem_map_of_mem h))
  obtain ⟨fdL, FL⟩ := F lw hl
  have lnm : lw.nm = lw.x ∧ lw.q = lw.x ∧ lw.at_ = (lw.x, none) := by
    unfold Row.nm Row.q Row.at_
    rw [hcm]; exact ⟨rfl, rfl, rfl⟩
  have ea : He.ga K lw.x = fa := by
    have := m2 hl hcm
    rw [hx, hmg] at this
    rw [hx]
    exact (Value.ref.inj (Option.some.inj this)).symm
  have bA := FunD.bindsA (ps := lw.ps) FL (hb lw hl)
  have fnd : ∀ (U : Wd), U.w = w → U.mg = mg → U.fs = fsOf rows → U.fi = fiOf rows → U.gn = gs.map (·.1) → U.fm = fmOf rows → U.fk = fkOf rows → ∀ r ∈ rows, r.cm = none → FnD U r.x r.fn := fun U e1 e2 e3 e4 e5 e6 e7 r h hn => by
    obtain ⟨fd, FD⟩ := F r h
    have hbr := hb r h
    have rnm : r.nm = r.x ∧ r.q = r.x ∧ r.at_ = (r.x, none) := by
      unfold Row.nm Row.q Row.at_
      rw [hn]; exact ⟨rfl, rfl, rfl⟩
    unfold BindP at hbr
    rw [rnm.1, rnm.2.1, rnm.2.2] at FD
    rw [rnm.1, rnm.2.1] at hbr
    have q := hrows r h
    simp only [Row.ok, Bool.and_eq_true, beq_iff_eq] at q
    obtain ⟨⟨⟨⟨_, q1⟩, q2⟩, q3⟩, q4⟩ := q
    refine ⟨⟨r.st, r.x, He.ga K r.x, fd, r.ps, r.N, by rw [e1]; exact Fun.ofD FD, by rw [e2]; exact m2 h hn, by rw [e1]; exact FunD.bindsN FD hbr, fnScB_ok q1, q2, q3, by rw [e1, e3, e4, e5, e6, e7]; exact q4⟩⟩
  have fndM : ∀ (U : Wd), U.w = w → U.mg = mg → U.fs = fsOf rows → U.fi = fiOf rows → U.gn = gs.map (·.1) → U.fm = fmOf rows → U.fk = fkOf rows → ∀ r ∈ rows, ∀ c m, fmOne r = some (r.x, c, m) → r.fn.io = true ∧ FnM U r.x c m r.fn := fun U e1 e2 e3 e4 e5 e6 e7 r h c m hf => by
    obtain ⟨fd, FD⟩ := F r h
    have hbr := hb r h
    cases hcm : r.cm with
    | none => unfold fmOne at hf; rw [hcm] at hf; cases hf
    | some y =>
      obtain ⟨c', m', qn⟩ := y
      unfold fmOne at hf
      rw [hcm] at hf
      simp only at hf
      split at hf
      · cases hf
      · rename_i hni
        simp only [Option.some.injEq, Prod.mk.injEq, true_and] at hf
        obtain ⟨rfl, rfl⟩ := hf
        have rnm : r.nm = m' ∧ r.q = qn ∧ r.at_ = (c', some m') := by
          unfold Row.nm Row.q Row.at_
          rw [hcm]; exact ⟨rfl, rfl, rfl⟩
        unfold BindP at hbr
        rw [rnm.1, rnm.2.1, rnm.2.2] at FD
        rw [rnm.1, rnm.2.1] at hbr
        have q := hrows r h
        simp only [Row.ok, hcm, Bool.and_eq_true, beq_iff_eq, Bool.not_eq_true'] at q
        obtain ⟨⟨⟨⟨⟨⟨q0, q5⟩, q6⟩, q1⟩, q2⟩, q3⟩, q4⟩ := q
        have hM := He.meth_ok (K := K) (x := c') (m := m') (mc (by simp only [faC, List.mem_append]; exact .inr (List.mem_filterMap.mpr ⟨r, h, by unfold metOf; rw [hcm]; simp only; rw [if_neg hni]⟩)))
        refine ⟨q0, ⟨⟨r.st, qn, He.ma K (He.ga K c') m', fd, r.ps, r.N, by rw [e1]; exact Fun.ofD FD, by rw [e1]; exact List.contains_iff_mem.mp q5, by rw [e1]; exact hM, (fun z => by rw [List.contains_iff_mem.mpr z] at q6; exact absurd q6 (by decide)), by rw [e1]; exact FunD.bindsN FD hbr, fnScB_ok q1, q2, q3, by rw [e1, e3, e4, e5, e6, e7]; exact q4⟩⟩⟩
  have fndK : ∀ (U : Wd), U.w = w → U.mg = mg → U.fs = fsOf rows → U.fi = fiOf rows → U.gn = gs.map (·.1) → U.fm = fmOf rows → U.fk = fkOf rows → ∀ r ∈ rows, ∀ c, fkOne r = some (r.x, c) → r.fn.io = true ∧ FnK U r.x c r.fn := fun U e1 e2 e3 e4 e5 e6 e7 r h c hf => by
    obtain ⟨fd, FD⟩ := F r h
    have hbr := hb r h
    cases hcm : r.cm with
    | none => unfold fkOne at hf; rw [hcm] at hf; cases hf
    | some y =>
      obtain ⟨c', m', qn⟩ := y
      unfold fkOne at hf
      rw [hcm] at hf
      simp only at hf
      split at hf
      · rename_i hni
        simp only [Option.some.injEq, Prod.mk.injEq, true_and] at hf
        subst hf hni
        have rnm : r.nm = iniS ∧ r.q = qn ∧ r.at_ = (c', some iniS) := by
          unfold Row.nm Row.q Row.at_
          rw [hcm]; exact ⟨rfl, rfl, rfl⟩
        unfold BindP at hbr
        rw [rnm.1, rnm.2.1, rnm.2.2] at FD
        rw [rnm.1, rnm.2.1] at hbr
        have q := hrows r h
        simp only [Row.ok, hcm, Bool.and_eq_true, beq_iff_eq, Bool.not_eq_true'] at q
        obtain ⟨⟨⟨⟨⟨⟨q0, q5⟩, q6⟩, q1⟩, q2⟩, q3⟩, q4⟩ := q
        have hM := He.mkr_ok (K := K) (x := c') (mc (by simp only [faC, List.mem_append]; exact .inr (List.mem_filterMap.mpr ⟨r, h, by unfold metOf; rw [hcm]; simp only; rw [if_pos trivial]⟩)))
        have hcl : c' ∈ clOf rows := List.contains_iff_mem.mp q5
        have hg : mg c' = some (.ref (He.ga K c')) := He.glo_ok KX G (mc (by simp only [faC, List.mem_append]; exact .inl (.inl (.inl (List.mem_map_of_mem hcl)))))
        refine ⟨q0, ⟨⟨r.st, iniS, qn, He.ma K (He.ga K c') iniS, fd, r.ps, r.N, by rw [e1]; exact Fun.ofD FD, by rw [e1]; exact hcl, by rw [e1, e2]; exact hg, by rw [e1]; exact hM, by rw [e1]; exact FunD.bindsN FD hbr, fnScB_ok q1, q2, q3, by rw [e1, e3, e4, e5, e6, e7]; exact q4⟩⟩⟩
      · cases hf
  refine ⟨K, fdL, spD (Wd.en ⟨P, wd, mg, h, w, gl, T, fsOf rows, fiOf rows, gs.map (·.1), fmOf rows, fkOf rows⟩ (n + 1)) ("law" : Str) 1, KX, fun s u => by have := bA s [u] (by rw [hp]; rfl); rw [hp] at this; exact this, fun H a ns hns _ hS => ?_, fun base KB GB => ?_⟩
  rotate_left
  · let U : Wd := ⟨P, wd, mg, base, w, gl, T, fsOf rows, fiOf rows, gs.map (·.1), fmOf rows, fkOf rows⟩
    have ek : EnOk (U.en 0) := by
      refine ⟨fun y hy0 d e => ?_, fun y h => m1 h, rfl, fun y hy f hf => ?_, fun c hc => ⟨He.cls_ok (mc (by simp only [faC, List.mem_append]; exact .inl (.inl (.inr (List.mem_map_of_mem hc))))), fun f hf => He.noat_ok (mc (by simp only [faC, List.mem_append]; exact .inl (.inr (List.mem_flatMap.mpr ⟨c, hc, List.mem_map_of_mem hf⟩))))⟩⟩
      rotate_left
      · obtain ⟨r, hr, rfl, k⟩ := m6 hy (by rw [hf]; intro z; cases z)
        have := k.no
        rw [hf] at this
        exact ⟨xfB_ok k.xf, this⟩
      have hmem : (y, d) ∈ gs := by
          obtain ⟨p, hp, rfl⟩ := List.mem_map.mp hy0
          have e2 := hg p hp
          have e3 : gl p.1 = some d := e
          rw [e3] at e2
          cases e2
          exact hp
      have q := c3 _ hmem
      unfold gloB at q
      split at q
      · rename_i u hu
        obtain ⟨v, r, z⟩ := valB_ok (w := w) q
        exact ⟨v, u, PySem.W.mg_of KX G hu, r, z⟩
      · cases q
    have xo : XOk (U.en 0) := ⟨fun y h => m3 h, fun y h => (m7 h).2.2, fun y h hn => (m4 h hn).1, fun y h => (m7 h).1, fun y h => (m7 h).2.1, fun y h z h2 => m5 h h2⟩
    have xi : XiOk (U.en 0) := ⟨fun y hy f hf => by
      obtain ⟨r, hr, rfl, k⟩ := m6 hy (by rw [hf]; intro z; cases z)
      obtain ⟨fd, p1, p2, q1, q2, q3, q4, h1, h2, h3, h4⟩ := hes r hr
      rw [h1] at hf
      obtain ⟨fdt, FD⟩ := FE r hr
      obtain ⟨oc, od, dV, kV, doc, pm, an, cdv, ct, osl, e1, e2, e3, hD, _⟩ := FD.ex
      have hdV : dV = .none := by
        rcases hD with ⟨_, h⟩ | ⟨h, _⟩
        · exact h
        · exact absurd rfl h
      have hno := k.no
      rw [h1] at hno
      refine ⟨fd, He.ma K (He.ga K r.c) "__init__", Option.some.inj hf, ⟨clsB_ok k.cls, k.sa, hno, k.ini, k.ty, k.kp, k.sb, k.tc, oc, od, "__init__", r.c ++ (".__init__" : Str), kV, doc, pm, an, cdv, ct, osl, p1, p2, q1, q2, q3, q4, ?_, e3⟩⟩
      rw [← h2, ← h3, ← h4, ← hdV, ← e1]
      exact e2⟩
    have all := fns_all ek xo xi (fun f hf => by
      obtain ⟨r, hr, rfl⟩ := List.mem_map.mp hf
      obtain ⟨h1, h2⟩ := List.mem_filter.mp hr
      simp only [Bool.and_eq_true, Option.isNone_iff_eq_none, Bool.not_eq_true'] at h2
      exact ⟨r.fn, hTr r h1, h2.2, fnd U rfl rfl rfl rfl rfl rfl rfl r h1 h2.1⟩) (fun f hf => by
      obtain ⟨r, hr, rfl⟩ := List.mem_map.mp hf
      obtain ⟨h1, h2⟩ := List.mem_filter.mp hr
      simp only [Bool.and_eq_true, Option.isNone_iff_eq_none] at h2
      exact ⟨r.fn, hTr r h1, h2.2, fnd U rfl rfl rfl rfl rfl rfl rfl r h1 h2.1⟩) (fun y hy => by
      obtain ⟨r, hr, hf⟩ := List.mem_filterMap.mp hy
      obtain ⟨y1, y2, y3⟩ := y
      have e1 : y1 = r.x := by
        unfold fmOne at hf
        split at hf
        · split at hf
          · cases hf
          · cases hf; rfl
        · cases hf
      subst e1
      obtain ⟨g1, g2⟩ := fndM U rfl rfl rfl rfl rfl rfl rfl r hr y2 y3 hf
      exact ⟨r.fn, hTr r hr, g1, g2⟩) (fun y hy => by
      obtain ⟨r, hr, hf⟩ := List.mem_filterMap.mp hy
      obtain ⟨y1, y2⟩ := y
      have e1 : y1 = r.x := by
        unfold fkOne at hf
        split at hf
        · split at hf
          · cases hf; rfl
          · cases hf
        · cases hf
      subst e1
      obtain ⟨g1, g2⟩ := fndK U rfl rfl rfl rfl rfl rfl rfl r hr y2 hf
      exact ⟨r.fn, hTr r hr, g1, g2⟩) n
    have q := hrows lw hl
    simp only [Row.ok, Bool.and_eq_true, beq_iff_eq] at q
    obtain ⟨⟨⟨⟨_, q1⟩, q2⟩, q3⟩, q4⟩ := q
    rw [lnm.1, lnm.2.1, lnm.2.2] at FL
    have FO := fn_plain0 (U := U) (f := lw.x) (qual := lw.x) (st := lw.st) (a := He.ga K lw.x) (fd := fdL) (ps := lw.ps) (N := lw.N) (fn := lw.fn) ek.at xo.at xi.at all (hTr lw hl) hio (Fun.ofD FL) (fnScB_ok q1) q2 q3 q4
    rw [ea, hp] at FO
    have e1 : spD (U.en (n + 1)) lw.x [x].length = spD (U.en (n + 1)) ("law" : Str) 1 := by rw [hx]; rfl
    rw [e1] at FO
    exact fn_cxe FO
  · obtain ⟨fr, io, e⟩ := val ns hns
    have hr : Reps w H (ns.map V.int) (ns.map D.int) := by
      clear val e hns hS
      induction ns with
      | nil => exact .nil
      | cons k r ih => exact .cons (.int k) ih
    refine ⟨rfl, H, [.lst (ns.map D.int)], .refl _, .cons (.lst hS hr (by rw [List.length_map]; omega)) .nil, ?_⟩
    have e' : (Wd.en ⟨P, wd, mg, h, w, gl, T, fsOf rows, fiOf rows, gs.map (·.1), fmOf rows, fkOf rows⟩ (n + 1)).call ("law" : Str) .un [.lst (ns.map D.int)] = .ret (.bl true) fr io := e
    rw [e']
    intro F' H' v _ nv
    rcases nv with ⟨_, r⟩ | ⟨_, _, _, _, _, r, _⟩
    · cases r; rfl
    · cases r
theorem room_callerA {n : Nat} (h : n ≤ 110) : Room (2 * (n + 1)) callerA := by
  refine ⟨rfl, ?_, ?_⟩
  · have e : callerA.depth + 5 + 3 * 222 < recursionLimit := by decide
    omega
  · have e : callerA.units + 200 + 16 * 222 < cLine := by decide
    omega
end IL
end
section
set_option maxHeartbeats 1000000
namespace IL
open PySem
section
variable (gl : Str → Option D) (call : Call) (s : Sg)
@[simp] theorem rE_loc (i : Nat) : evE gl call (.loc i) s = takeS s i := rfl
@[simp] theorem rE_glo (x : Str) : evE gl call (.glo x) s = R.of ((gl x).map fun d => (d, false)) s := rfl
@[simp] theorem rE_lit (l : Lit) : evE gl call (.lit l) s = .ok (l.d, false) s := rfl
@[simp] theorem rE_bin (o : Bop) (a b : Ex) : evE gl call (.bin o a b) s = (two a b (evE gl call a) (evE gl call b) s).bind fun p s => R.of (binD o p.1 p.2) s := rfl
@[simp] theorem rE_neg (a : Ex) : evE gl call (.neg a) s = (rd a (evE gl call a) s).bind fun x s => R.of ((negD x).map fun d => (d, false)) s := rfl
@[simp] theorem rE_not (a : Ex) : evE gl call (.not a) s = (rd a (evE gl call a) s).bind fun x s => R.of ((truth x).map fun b => (D.bl (!b), false)) s := rfl
@[simp] theorem rE_cmp (o : Cop) (a b : Ex) : evE gl call (.cmp o a b) s = (two a b (evE gl call a) (evE gl call b) s).bind fun p s => R.of ((cmpD o p.1 p.2).map fun b => (D.bl b, false)) s := rfl
@[simp] theorem rE_isl (n : Bool) (a : Ex) (l : Lit) : evE gl call (.isl n a l) s = (rd a (evE gl call a) s).bind fun x s => R.of ((islD x l).map fun b => (D.bl (b != n), false)) s := rfl
@[simp] theorem rE_and (a b : Ex) : evE gl call (.and a b) s = (evE gl call a s).bind fun x s => (R.of (truth x.1) s).bind fun k s => if k then evE gl call b s else .ok (x.1, false) s := rfl
@[simp] theorem rE_or (a b : Ex) : evE gl call (.or a b) s = (evE gl call a s).bind fun x s => (R.of (truth x.1) s).bind fun k s => if k then .ok (x.1, false) s else evE gl call b s := rfl
@[simp] theorem rE_ite (c a b : Ex) : evE gl call (.ite c a b) s = (rd c (evE gl call c) s).bind fun x s => (R.of (truth x) s).bind fun k s => if k then evE gl call a s else evE gl call b s := rfl
@[simp] theorem rE_tup (xs : Exs) : evE gl call (.tup xs) s = (evXs gl call xs s).bind fun ds s => lenOk ds (.tup ds) false s := rfl
@[simp] theorem rE_lst (xs : Exs) : evE gl call (.lst xs) s = (evXs gl call xs s).bind fun ds s => lenOk ds (.lst ds) true s := rfl
@[simp] theorem rE_ix (a b : Ex) : evE gl call (.ix a b) s = (two a b (evE gl call a) (evE gl call b) s).bind fun p s => R.of ((ixD p.1 p.2).map fun d => (d, false)) s := rfl
@[simp] theorem rE_dct (vs : List Nat) (t : Tg) (it : It) (k e : Ex) : evE gl call (.dct vs t it k e) s = (evIt gl call it s).bind fun ds s0 => (noexR (lcR (lcB vs t fun acc s => (evE gl call k s).bind fun y s => (evE gl call e s).bind fun z s => putR acc y.1 z.1 s) ds [] (wipeS s0 vs))).bind fun ys s' => .ok (.obj dctN ys, false) (backS s0 s' vs) := rfl
@[simp] theorem rE_call (f : Str) (xs : Exs) : evE gl call (.call f xs) s = (evXs gl call xs s).bind fun ds s => callR (call f .un ds) s := rfl
@[simp] theorem rE_cio (f : Str) (i : Nat) (xs : Exs) : evE gl call (.cio f i xs) s = (hasS s i).bind fun _ s => (evXs gl call xs s).bind fun ds s => callIo call f i ds s := rfl
@[simp] theorem rE_blt1 (f : Blt) (a : Ex) : evE gl call (.blt f (.cons false a .nil)) s = (rd a (evE gl call a) s).bind fun x s => R.of (bltD f [x]) s := rfl
@[simp] theorem rE_blt2 (f : Blt) (a b : Ex) (r : Exs) (k : Bool) : evE gl call (.blt f (.cons false a (.cons k b r))) s = (evXs gl call (.cons false a (.cons k b r)) s).bind fun ds s => R.of (bltD f ds) s := rfl
@[simp] theorem rE_isi (a : Ex) (ts : List Ty) : evE gl call (.isi a ts) s = (rd a (evE gl call a) s).bind fun x s => .ok (D.bl (isTys x ts), false) s := rfl
@[simp] theorem rE_mth (m : Mth) (o : Ex) (xs : Exs) : evE gl call (.mth m o xs) s = (evE gl call o s).bind fun x s => (R.of (mthO m x.1) s).bind fun _ s => (evXs gl call xs s).bind fun ds s => R.of ((mthD m x.1 ds).map fun d => (d, false)) s := rfl
@[simp] theorem rX_nil : evXs gl call .nil s = .ok [] s := rfl
@[simp] theorem rX_cons (e : Ex) (r : Exs) : evXs gl call (.cons false e r) s = (evE gl call e s).bind fun x s => (evXs gl call r s).bind fun ds s => .ok (x.1 :: ds) s := rfl
@[simp] theorem rI_rng (a : Ex) : evIt gl call (.rng a) s = (evE gl call a s).bind fun x s => (intR x.1 s).bind fun j s => R.of (rngD 0 j) s := rfl
@[simp] theorem rI_seq (a : Ex) : evIt gl call (.seq a) s = (evE gl call a s).bind fun x s => R.of (itemsD x.1) s := rfl
@[simp] theorem rT (e : Ex) : evT gl call e s = (rd e (evE gl call e) s).bind fun x s => R.of (truth x) s := rfl
@[simp] theorem rSs_nil : evMs gl call .nil s = .ok .nx s := rfl
@[simp] theorem rSs_cons (a : Sm) (r : Sms) : evMs gl call (.cons a r) s = seqF (evM gl call a s) (evMs gl call r) := rfl
@[simp] theorem rS_set (i : Nat) (e : Ex) : evM gl call (.set i e) s = (evE gl call e s).bind fun x s => ofS (setS s i (mkS x.1 x.2)) := rfl
@[simp] theorem rS_unp (t : Tg) (e : Ex) : evM gl call (.unp t e) s = (evE gl call e s).bind fun x s => ofS (asg t x.1 s) := rfl
@[simp] theorem rS_par (i j : Nat) (a b : Ex) : evM gl call (.par i j a b) s = (evE gl call a s).bind fun x s => (evE gl call b s).bind fun y s => ofS ((setS s i (.sh x.1)).bind fun s => setS s j (.sh y.1)) := rfl
@[simp] theorem rS_put (i : Nat) (k v : Ex) : evM gl call (.put i k v) s = (evE gl call v s).bind fun v s => (hasS s i).bind fun _ s => (rd k (evE gl call k) s).bind fun k s => ofS (putS s i k v.1) := rfl
@[simp] theorem rS_aug (i : Nat) (o : Bop) (e : Ex) : evM gl call (.aug i o e) s = (readS s i).bind fun _ s => (rd e (evE gl call e) s).bind fun y s => (readS s i).bind fun x s => (R.of (augD o x y) s).bind fun z s => ofS (setS s i (.sh z)) := rfl
@[simp] theorem rS_ins (i : Nat) (k e : Ex) : evM gl call (.ins i k e) s = (hasL s i).bind fun _ s => (evE gl call k s).bind fun y s => (evE gl call e s).bind fun x s => ofS (insS s i y.1 x.1) := rfl
@[simp] theorem rS_app (i : Nat) (e : Ex) : evM gl call (.app i e) s = (hasL s i).bind fun _ s => (evE gl call e s).bind fun x s => ofS (appS s i [x.1]) := rfl
@[simp] theorem rS_ex (e : Ex) : evM gl call (.ex e) s = (evE gl call e s).bind fun _ s => .ok .nx s := rfl
@[simp] theorem rS_for (t : Tg) (it : It) (b : Sms) : evM gl call (.forr t it b) s = (evIt gl call it s).bind fun ds s => loopF (fun x s => seqF (ofS (asg t x s)) (evMs gl call b)) ds s := rfl
@[simp] theorem rS_whil (c : Ex) (b : Sms) : evM gl call (.whil c b) s = whR (evT gl call c) (evMs gl call b) s := rfl
@[simp] theorem rS_iff (c : Ex) (a b : Sms) : evM gl call (.iff c a b) s = (evT gl call c s).bind fun k s => if k then evMs gl call a s else evMs gl call b s := rfl
@[simp] theorem rS_mat (e : Ex) (h : Hds) : evM gl call (.mat e h) s = (rd e (evE gl call e) s).bind fun x s => wordR x fun z => evW gl call h z s := by rw [evM]
@[simp] theorem rW_nil (z : Str) : evW gl call .nil z s = .ok .nx s := by rw [evW]
@[simp] theorem rW_cons (y z : Str) (b : Sms) (r : Hds) : evW gl call (.cons y none b r) z s = if z = y then evMs gl call b s else evW gl call r z s := by rw [evW]
@[simp] theorem rS_ret (e : Ex) : evM gl call (.ret e) s = retE e (evE gl call e) s := rfl
@[simp] theorem rS_retN : evM gl call .retN s = .ok (.ret .non false) s := rfl
@[simp] theorem rS_rais (c : Str) : evM gl call (.rais c .no) s = .ex c none s := rfl
@[simp] theorem rS_tri (b : Sms) (h : Hds) : evM gl call (.tri b h) s = (match evMs gl call b s with
    | .ex c x s => evH gl call h c x s
    | r => r) := rfl
@[simp] theorem rS_pass : evM gl call .pass s = .ok .nx s := rfl
@[simp] theorem rS_cont : evM gl call .cont s = .ok .ct s := rfl
@[simp] theorem rS_brk : evM gl call .brk s = .ok .bk s := rfl
@[simp] theorem rH_nil (c : Str) (x : Option D) : evH gl call .nil c x s = .ex c x s := rfl
@[simp] theorem rH_cons (y : Str) (b : Sms) (r : Hds) (c : Str) (x : Option D) : evH gl call (.cons y none b r) c x s = if above c y then noexF (evMs gl call b s) else evH gl call r c x s := rfl
end
@[simp] theorem bin_addI (i j : Int) : binD .add (.int i) (.int j) = some (.int (i + j), false) := rfl
@[simp] theorem bin_subI (i j : Int) : binD .sub (.int i) (.int j) = some (.int (i - j), false) := rfl
@[simp] theorem bin_mulI (i j : Int) : binD .mul (.int i) (.int j) = if mulOk i j = true then some (.int (i * j), false) else none := rfl
@[simp] theorem bin_fdivI (i j : Int) : binD .fdiv (.int i) (.int j) = if divOk i j = true then some (.int (i.fdiv j), false) else none := rfl
@[simp] theorem bin_modI (i j : Int) : binD .mod (.int i) (.int j) = if j ≠ 0 then some (.int (i.fmod j), false) else none := rfl
@[simp] theorem bin_powI (i j : Int) : binD .pow (.int i) (.int j) = if powOk i j = true then some (.int (i ^ j.toNat), false) else none := rfl
@[simp] theorem bin_addL (xs ys : List D) : binD .add (.lst xs) (.lst ys) = if xs.length + ys.length ≤ limN then some (.lst (xs ++ ys), true) else none := rfl
@[simp] theorem bin_addT (xs ys : List D) : binD .add (.tup xs) (.tup ys) = if xs.length + ys.length ≤ limN then some (.tup (xs ++ ys), false) else none := rfl
@[simp] theorem aug_addI (i j : Int) : augD .add (.int i) (.int j) = some (.int (i + j)) := rfl
@[simp] theorem aug_subI (i j : Int) : augD .sub (.int i) (.int j) = some (.int (i - j)) := rfl
@[simp] theorem neg_I (i : Int) : negD (.int i) = some (.int (-i)) := rfl
@[simp] theorem tr_non : truth .non = some false := rfl
@[simp] theorem tr_bl (b : Bool) : truth (.bl b) = some b := rfl
@[simp] theorem tr_int (i : Int) : truth (.int i) = some (i != 0) := rfl
@[simp] theorem tr_tup (xs : List D) : truth (.tup xs) = some (!xs.isEmpty) := rfl
@[simp] theorem tr_lst (xs : List D) : truth (.lst xs) = some (!xs.isEmpty) := rfl
@[simp] theorem c_eqI (i j : Int) : cmpD .eq (.int i) (.int j) = some (i == j) := rfl
@[simp] theorem c_neI (i j : Int) : cmpD .ne (.int i) (.int j) = some (!(i == j)) := rfl
@[simp] theorem c_eqB (i j : Bool) : cmpD .eq (.bl i) (.bl j) = some (i == j) := rfl
@[simp] theorem c_neB (i j : Bool) : cmpD .ne (.bl i) (.bl j) = some (!(i == j)) := rfl
@[simp] theorem c_eqS (i j : Str) : cmpD .eq (.str i) (.str j) = some (i == j) := rfl
@[simp] theorem c_neS (i j : Str) : cmpD .ne (.str i) (.str j) = some (!(i == j)) := rfl
@[simp] theorem c_lt (i j : Int) : cmpD .lt (.int i) (.int j) = some (decide (i < j)) := rfl
@[simp] theorem c_le (i j : Int) : cmpD .le (.int i) (.int j) = some (decide (i ≤ j)) := rfl
@[simp] theorem c_gt (i j : Int) : cmpD .gt (.int i) (.int j) = some (decide (j < i)) := rfl
@[simp] theorem c_ge (i j : Int) : cmpD .ge (.int i) (.int j) = some (decide (j ≤ i)) := rfl
@[simp] theorem is_non (d : D) : islD d .non = some (isNonD d) := by cases d <;> rfl
@[simp] theorem b_lenT (xs : List D) : bltD .len [.tup xs] = some (.int xs.length, false) := rfl
@[simp] theorem b_lenL (xs : List D) : bltD .len [.lst xs] = some (.int xs.length, false) := rfl
@[simp] theorem b_lenS (x : Str) : bltD .len [.str x] = some (.int x.length, false) := rfl
@[simp] theorem b_abs (i : Int) : bltD .abs [.int i] = some (.int (if i < 0 then -i else i), false) := rfl
@[simp] theorem b_min (i j : Int) : bltD .min2 [.int i, .int j] = some (.int (if j < i then j else i), false) := rfl
@[simp] theorem b_max (i j : Int) : bltD .max2 [.int i, .int j] = some (.int (if j > i then j else i), false) := rfl
@[simp] theorem b_intI (i : Int) : bltD .int [.int i] = some (.int i, false) := rfl
@[simp] theorem b_intB (b : Bool) : bltD .int [.bl b] = some (.int (if b then 1 else 0), false) := rfl
@[simp] theorem b_tupL (xs : List D) : bltD .tuple [.lst xs] = some (.tup xs, false) := rfl
@[simp] theorem b_tupT (xs : List D) : bltD .tuple [.tup xs] = some (.tup xs, false) := rfl
@[simp] theorem b_rev (xs : List D) : bltD .rev [.lst xs] = some (.lst xs.reverse, true) := rfl
@[simp] theorem b_lstL (xs : List D) : bltD .list [.lst xs] = some (.lst xs, true) := rfl
@[simp] theorem b_lstT (xs : List D) : bltD .list [.tup xs] = some (.lst xs, true) := rfl
@[simp] theorem ix_O (ps : List D) (k : Str) : ixD (.obj dctN ps) (.str k) = lookP k ps := by simp [ixD]
@[simp] theorem ix_L (xs : List D) (i : Int) : ixD (.lst xs) (.int i) = L2.atI xs i := rfl
@[simp] theorem ix_T (xs : List D) (i : Int) : ixD (.tup xs) (.int i) = L2.atI xs i := rfl
@[simp] theorem it_L (xs : List D) : itemsD (.lst xs) = some xs := rfl
@[simp] theorem it_T (xs : List D) : itemsD (.tup xs) = some xs := rfl
@[simp] theorem l_non : Lit.d .non = .non := rfl
@[simp] theorem l_bl (b : Bool) : Lit.d (.bl b) = .bl b := rfl
@[simp] theorem l_int (b : Int) : Lit.d (.int b) = .int b := rfl
@[simp] theorem l_str (b : Str) : Lit.d (.str b) = .str b := rfl
@[simp] theorem int_R (i : Int) (s : Sg) : intR (.int i) s = .ok i s := rfl
@[simp] theorem m_bits (i : Int) : mthD .bits (.int i) [] = some (.int (bitsOf i)) := rfl
@[simp] theorem mo_cnt (xs : List D) : mthO .count (.lst xs) = some () := rfl
@[simp] theorem mo_kinds (xs : List D) : mthO .kinds (.lst xs) = some () := rfl
@[simp] theorem mo_bits (i : Int) : mthO .bits (.int i) = some () := rfl
@[simp] theorem mo_ix (xs : List D) : mthO .index (.tup xs) = some () := rfl
@[simp] theorem cR_ret (d : D) (fr : Bool) (io : Slot) (s : Sg) : callR (.ret d fr io) s = .ok (d, fr) s := rfl
@[simp] theorem cR_ex (c : Str) (x : Option D) (io : Slot) (s : Sg) : callR (.ex c x io) s = .ex c x s := rfl
@[simp] theorem rd_loc (i : Nat) (v : Sg → R (D × Bool)) (s : Sg) : rd (.loc i) v s = readS s i := rfl
@[simp] theorem mk_own (xs : List D) : mkS (.lst xs) true = .ow false xs := rfl
@[simp] theorem mk_sh (d : D) : mkS d false = .sh d := by unfold mkS; split <;> simp_all
@[simp] theorem ofS_some (s : Sg) : ofS (some s) = .ok .nx s := rfl
theorem at_nat {α : Type} (xs : List α) (k : Nat) : L2.atI xs (k : Int) = xs[k]? := by
  unfold L2.atI L2.ixN
  rw [if_pos (Int.natCast_nonneg k)]
  split
  · simp
  · rename_i h
    have : xs.length ≤ k := by omega
    rw [List.getElem?_eq_none this]; rfl
@[simp] theorem at0 {α : Type} (xs : List α) : L2.atI xs 0 = xs[0]? := at_nat xs 0
@[simp] theorem at1 {α : Type} (xs : List α) : L2.atI xs 1 = xs[1]? := at_nat xs 1
@[simp] theorem at2 {α : Type} (xs : List α) : L2.atI xs 2 = xs[2]? := at_nat xs 2
@[simp] theorem at3 {α : Type} (xs : List α) : L2.atI xs 3 = xs[3]? := at_nat xs 3
@[simp] theorem rS0s (d : D) (r : Sg) : readS (.sh d :: r) 0 = .ok d (.sh d :: r) := rfl
@[simp] theorem rS0o (p : Bool) (xs : List D) (r : Sg) : readS (.ow p xs :: r) 0 = .ok (.lst xs) (.ow p xs :: r) := rfl
@[simp] theorem tS0s (d : D) (r : Sg) : takeS (.sh d :: r) 0 = .ok (d, false) (.sh d :: r) := rfl
/-- a call, by its def -/
theorem run_f {gl : Str → Option D} {T : Str → Option Fn} {n : Nat} {f : Str} {fn : Fn} {ds : List D} (hT : T f = some fn) (hio : fn.io = false) (hl : ds.length = fn.np) :
    callN gl T (n + 1) f .un ds = endR fn .un (evMs gl (callN gl T n) fn.body (ds.map Slot.sh ++ List.replicate (fn.ns - fn.np) .un)) := by
  simp only [callN, hT, frame, hio, hl, if_true, if_false, Bool.false_eq_true]
theorem run_io {gl : Str → Option D} {T : Str → Option Fn} {n : Nat} {f : Str} {fn : Fn} {ds : List D} {p : Bool} {xs : List D} (hT : T f = some fn) (hio : fn.io = true) (hl : ds.length + 1 = fn.np) :
    callN gl T (n + 1) f (.ow p xs) ds = endR fn (.ow p xs) (evMs gl (callN gl T n) fn.body (.ow true xs :: ds.map Slot.sh ++ List.replicate (fn.ns - fn.np) .un)) := by
  simp only [callN, hT, frame, hio, hl, if_true, pinS, Option.map_some]
end IL
end
section
set_option maxHeartbeats 1000000
namespace IL
open PySem PySem.Spec PyProof.Rows L2
end IL
end
section
set_option maxHeartbeats 1000000
namespace IL
open PySem
@[simp] theorem pin_sh (d : D) : (Slot.sh d).pinned = false := rfl
@[simp] theorem pin_un : Slot.un.pinned = false := rfl
@[simp] theorem pin_ow (p : Bool) (xs : List D) : (Slot.ow p xs).pinned = p := rfl
abbrev XP := Str → Option D → Sg → Prop
/-- of an expression: it gives a value, or raises -/
@[irreducible] def wE {α : Type} (r : R α) (Q : α → Sg → Prop) (X : XP) : Prop := match r with
  | .ok a s => Q a s
  | .ex c x s => X c x s
  | .bad => False
structure Po where
  nx : Sg → Prop
  rt : D → Bool → Sg → Prop
  ex : XP
  bk : Sg → Prop
  ct : Sg → Prop
/-- of a statement -/
@[irreducible] def wS (r : R Fl) (P : Po) : Prop := match r with
  | .ok .nx s => P.nx s
  | .ok (.ret d fr) s => P.rt d fr s
  | .ok .bk s => P.bk s
  | .ok .ct s => P.ct s
  | .ex c x s => P.ex c x s
  | .bad => False
/-- of a call -/
@[irreducible] def wC (r : CR) (Q : D → Bool → Slot → Prop) (X : Str → Option D → Slot → Prop) : Prop := match r with
  | .ret d fr io => Q d fr io
  | .ex c x io => X c x io
  | .bad => False
section
variable {α β : Type} {Q : α → Sg → Prop} {X : XP} {P : Po} {gl : Str → Option D} {C : Call} {s : Sg}
@[simp] theorem wE_ok (a : α) (s : Sg) : wE (.ok a s) Q X = Q a s := by simp only [wE]
@[simp] theorem wE_bad : wE (.bad : R α) Q X = False := by simp only [wE]
@[simp] theorem wE_ex (c : Str) (x : Option D) (s : Sg) : wE (.ex c x s : R α) Q X = X c x s := by simp only [wE]
@[simp] theorem wE_bind (r : R β) (f : β → Sg → R α) : wE (r.bind f) Q X = wE r (fun a s => wE (f a s) Q X) X := by cases r <;> simp only [R.bind, wE]
@[simp] theorem wE_ite (c : Prop) [Decidable c] (a b : R α) : wE (if c then a else b) Q X = (if c then wE a Q X else wE b Q X) := by split <;> rfl
@[simp] theorem wS_nx (s : Sg) : wS (.ok .nx s) P = P.nx s := by simp only [wS]
@[simp] theorem wS_rt (d : D) (fr : Bool) (s : Sg) : wS (.ok (.ret d fr) s) P = P.rt d fr s := by simp only [wS]
@[simp] theorem wS_bk (s : Sg) : wS (.ok .bk s) P = P.bk s := by simp only [wS]
@[simp] theorem wS_ct (s : Sg) : wS (.ok .ct s) P = P.ct s := by simp only [wS]
@[simp] theorem wS_bad : wS .bad P = False := by simp only [wS]
@[simp] theorem wS_ex (c : Str) (x : Option D) (s : Sg) : wS (.ex c x s) P = P.ex c x s := by simp only [wS]
@[simp] theorem wS_bind (r : R β) (f : β → Sg → R Fl) : wS (r.bind f) P = wE r (fun a s => wS (f a s) P) P.ex := by cases r <;> simp only [R.bind, wE, wS]
@[simp] theorem wS_seq (r : R Fl) (k : Sg → R Fl) : wS (seqF r k) P = wS r { P with nx := fun s => wS (k s) P } := by
  cases r with
  | ok f s => cases f <;> simp only [seqF, R.bind, wS]
  | _ => simp only [seqF, R.bind, wS]
@[simp] theorem wS_noexF (r : R Fl) : wS (noexF r) P = wS r { P with ex := fun _ _ _ => False } := by
  cases r with
  | ok f s => cases f <;> simp only [noexF, wS]
  | _ => simp only [noexF, wS]
@[simp] theorem wE_noexR (r : R α) : wE (noexR r) Q X = wE r Q (fun _ _ _ => False) := by cases r <;> simp only [noexR, wE]
@[simp] theorem above_self (c : Str) : above c c = true := by simp [above]
@[simp] theorem wS_ite (c : Prop) [Decidable c] (a b : R Fl) : wS (if c then a else b) P = (if c then wS a P else wS b P) := by split <;> rfl
@[simp] theorem wC_ret (d : D) (fr : Bool) (io : Slot) (Q : D → Bool → Slot → Prop) (X : Str → Option D → Slot → Prop) : wC (.ret d fr io) Q X = Q d fr io := by simp only [wC]
@[simp] theorem wC_bad (Q : D → Bool → Slot → Prop) (X : Str → Option D → Slot → Prop) : wC .bad Q X = False := by simp only [wC]
@[simp] theorem wC_ex (c : Str) (x : Option D) (io : Slot) (Q : D → Bool → Slot → Prop) (X : Str → Option D → Slot → Prop) : wC (.ex c x io) Q X = X c x io := by simp only [wC]
@[simp] theorem wE_call (r : CR) (s : Sg) {Q : D × Bool → Sg → Prop} : wE (callR r s) Q X = wC r (fun d fr _ => Q (d, fr) s) (fun c x _ => X c x s) := by cases r <;> simp only [callR, wE, wC]
@[simp] theorem wE_io0 {f : Str} {ds : List D} {io : Slot} {r : Sg} {Q : D × Bool → Sg → Prop} : wE (callIo C f 0 ds (io :: r)) Q X = wC (C f io ds) (fun d fr io' => Q (d, fr) (io' :: r)) (fun c x io' => X c x (io' :: r)) := by
  unfold callIo
  simp only [List.getElem?_cons_zero]
  cases C f io ds <;> simp only [wE, wC, List.set]
@[simp] theorem wE_io1 {f : Str} {ds : List D} {a io : Slot} {r : Sg} {Q : D × Bool → Sg → Prop} : wE (callIo C f 1 ds (a :: io :: r)) Q X = wC (C f io ds) (fun d fr io' => Q (d, fr) (a :: io' :: r)) (fun c x io' => X c x (a :: io' :: r)) := by
  unfold callIo
  simp only [List.getElem?_cons_succ, List.getElem?_cons_zero]
  cases C f io ds <;> simp only [wE, wC, List.set]
theorem wS_mono {r : R Fl} {P P' : Po} (h : wS r P) (h1 : ∀ s, P.nx s → P'.nx s) (h2 : ∀ d fr s, P.rt d fr s → P'.rt d fr s) (h3 : ∀ c x s, P.ex c x s → P'.ex c x s) (h4 : ∀ s, P.bk s → P'.bk s) (h5 : ∀ s, P.ct s → P'.ct s) : wS r P' := by
  cases r with
  | ok f s =>
    cases f <;> simp only [wS] at h ⊢
    case nx => exact h1 _ h
    case ret d fr => exact h2 _ _ _ h
    case bk => exact h4 _ h
    case ct => exact h5 _ h
  | ex c x s => simp only [wS] at h ⊢; exact h3 _ _ _ h
  | bad => simp only [wS] at h
/-- statements, one after the other -/
theorem s_cons {a : Sm} {r : Sms} (h : wS (evM gl C a s) { P with nx := fun s => wS (evMs gl C r s) P }) : wS (evMs gl C (.cons a r) s) P := by
  rw [rSs_cons, wS_seq]; exact h
/-- a statement, and what is known behind it -/
theorem s_cut {a : Sm} {r : Sms} (I : Sg → Prop) (h : wS (evM gl C a s) { P with nx := I }) (k : ∀ s, I s → wS (evMs gl C r s) P) : wS (evMs gl C (.cons a r) s) P :=
  s_cons (wS_mono h k (fun _ _ _ h => h) (fun _ _ _ h => h) (fun _ h => h) fun _ h => h)
@[simp] theorem wS_nil : wS (evMs gl C .nil s) P = P.nx s := by rw [rSs_nil, wS_nx]
section
variable (gl : Str → Option D) (call : Call) (s : Sg)
@[simp] theorem rE_chn (o p : Cop) (a b c : Ex) : evE gl call (.chn o p a b c) s = (evE gl call a s).bind fun x s => (evE gl call b s).bind fun y s => (R.of (cmpD o x.1 y.1) s).bind fun k s => if k then (rd c (evE gl call c) s).bind fun z s => R.of ((cmpD p y.1 z).map fun b => (D.bl b, false)) s else .ok (.bl false, false) s := rfl
@[simp] theorem rE_chn3 (o p q : Cop) (a b c d : Ex) : evE gl call (.chn3 o p q a b c d) s = (evE gl call a s).bind fun x s => (evE gl call b s).bind fun y s => (R.of (cmpD o x.1 y.1) s).bind fun k s => if k then (evE gl call c s).bind fun z s => (R.of (cmpD p y.1 z.1) s).bind fun k s => if k then (rd d (evE gl call d) s).bind fun w s => R.of ((cmpD q z.1 w).map fun b => (D.bl b, false)) s else .ok (.bl false, false) s else .ok (.bl false, false) s := rfl
@[simp] theorem rE_sl (a : Ex) (lo hi : Oex) : evE gl call (.sl a lo hi) s = (if lateO a lo hi then (rd a (evE gl call a) s).bind fun _ s => (evO gl call lo s).bind fun l s => (evO gl call hi s).bind fun h s => (rd a (evE gl call a) s).bind fun x s => .ok (x, l, h) s else (evE gl call a s).bind fun x s => (evO gl call lo s).bind fun l s => (evO gl call hi s).bind fun h s => .ok (x.1, l, h) s).bind fun p s => R.of (slD p.1 p.2.1 p.2.2) s := rfl
@[simp] theorem rE_fld (i : Nat) (f : Str) : evE gl call (.fld i f) s = takeF s i f := rfl
@[simp] theorem rE_lc (vs : List Nat) (t : Tg) (it : It) (c : Oex) (e : Ex) : evE gl call (.lc vs t it c e) s = (evIt gl call it s).bind fun ds s0 => (noexR (lcR (lcB vs t fun acc s => (evC gl call c s).bind fun k s => if k then (evE gl call e s).bind fun y s => appR acc y.1 s else .ok acc s) ds [] (wipeS s0 vs))).bind fun ys s' => .ok (.lst ys, true) (backS s0 s' vs) := rfl
@[simp] theorem rE_lc2 (vs vs1 : List Nat) (t : Tg) (it : It) (t1 : Tg) (it1 : It) (e : Ex) : evE gl call (.lc2 vs vs1 t it t1 it1 e) s = (evIt gl call it s).bind fun ds s0 => (noexR (lcR (lcB vs t fun acc s => (evIt gl call it1 s).bind fun es s => lcR (lcB vs1 t1 fun acc s => (evE gl call e s).bind fun y s => appR acc y.1 s) es acc (wipeS s vs1)) ds [] (wipeS s0 vs))).bind fun ys s' => .ok (.lst ys, true) (backS s0 s' vs) := rfl
@[simp] theorem rE_lcO (vs : List Nat) (t : Tg) (i : Nat) (c : Oex) (e : Ex) : evE gl call (.lcO vs t i c e) s = if c.noio && e.noio then (readS s i).bind fun x s0 => (R.of (lstO x) s0).bind fun ds s0 => (noexR (lcR (lcB vs t fun acc s => (evC gl call c s).bind fun k s => if k then (evE gl call e s).bind fun y s => appR acc y.1 s else .ok acc s) ds [] (wipeS s0 vs))).bind fun ys s' => .ok (.lst ys, true) (backS s0 s' vs) else .bad := rfl
@[simp] theorem rC_no : evC gl call .no s = .ok true s := rfl
@[simp] theorem rC_yes (e : Ex) : evC gl call (.yes e) s = (rd e (evE gl call e) s).bind fun x s => R.of (truth x) s := rfl
@[simp] theorem rO_no : evO gl call .no s = .ok none s := rfl
@[simp] theorem rO_yes (e : Ex) : evO gl call (.yes e) s = (rd e (evE gl call e) s).bind fun x s => (intR x s).bind fun i s => .ok (some i) s := rfl
@[simp] theorem rX_star (e : Ex) (r : Exs) : evXs gl call (.cons true e r) s = (evE gl call e s).bind fun x s => (R.of (seqD x.1) s).bind fun xs s => (evXs gl call r s).bind fun ds s => .ok (xs ++ ds) s := rfl
@[simp] theorem rI_rng2 (a b : Ex) : evIt gl call (.rng2 a b) s = (evE gl call a s).bind fun x s => (evE gl call b s).bind fun y s => (intR x.1 s).bind fun i s => (intR y.1 s).bind fun j s => R.of (rngD i j) s := rfl
@[simp] theorem rI_enum (i : It) : evIt gl call (.enum i) s = (evIt gl call i s).bind fun xs s => .ok (enumL 0 xs) s := rfl
@[simp] theorem rI_zip (i j : It) : evIt gl call (.zip i j) s = (evIt gl call i s).bind fun xs s => (evIt gl call j s).bind fun ys s => .ok (zipL xs ys) s := rfl
@[simp] theorem rI_zip3 (a b c : Ex) : evIt gl call (.zip3 a b c) s = (evE gl call a s).bind fun x s => (R.of (itemsD x.1) s).bind fun xs s => (evE gl call b s).bind fun y s => (R.of (itemsD y.1) s).bind fun ys s => (evE gl call c s).bind fun z s => (R.of (itemsD z.1) s).bind fun zs s => .ok (zipL3 xs ys zs) s := rfl
@[simp] theorem rS_ext (i : Nat) (e : Ex) : evM gl call (.ext i e) s = (hasL s i).bind fun _ s => (evE gl call e s).bind fun x s => (R.of (lstD x) s).bind fun xs s => ofS (appS s i xs) := rfl
@[simp] theorem rS_raisY (c : Str) (e : Ex) : evM gl call (.rais c (.yes e)) s = (evE gl call e s).bind fun x s => .ex c (some x.1) s := rfl
end
/-- for -/
theorem s_loop {P : Po} {b : D → Sg → R Fl} (I : Nat → Sg → Prop) : ∀ (ds : List D) (n : Nat) (s : Sg), I n s → (∀ i x s, ds[i]? = some x → I (n + i) s → wS (b x s) { P with nx := I (n + i + 1), ct := I (n + i + 1), bk := P.nx }) → (∀ s, I (n + ds.length) s → P.nx s) → wS (loopF b ds s) P
  | [], n, s, h0, _, h2 => by simp only [loopF, wS]; exact h2 s h0
  | x :: xs, n, s, h0, h1, h2 => by
    have hb := h1 0 x s rfl h0
    simp only [loopF]
    cases hr : b x s with
    | bad => rw [hr] at hb; simp only [wS] at hb
    | ex c y s' => rw [hr] at hb; simp only [R.bind, wS] at hb ⊢; exact hb
    | ok f s' =>
      rw [hr] at hb
      have ih := fun (s' : Sg) (hs : I (n + 1) s') => s_loop (P := P) (b := b) I xs (n + 1) s' hs (fun i y s hy hi => by
        have := h1 (i + 1) y s (by simpa using hy) (by rw [show n + (i + 1) = n + 1 + i by omega]; exact hi)
        rw [show n + (i + 1) + 1 = n + 1 + i + 1 by omega] at this
        exact this) (fun s hs => h2 s (by rw [List.length_cons, show n + (xs.length + 1) = n + 1 + xs.length by omega]; exact hs))
      cases f <;> simp only [R.bind, wS] at hb ⊢
      case nx => exact ih s' hb
      case ct => exact ih s' hb
      case bk => exact hb
      case ret d fr => exact hb
/-- a loop over written items: I of what is walked and what is left -/
theorem s_for {b : D → Sg → R Fl} (I : List D → Sg → Prop) : ∀ (ds : List D) (s : Sg), I ds s → (∀ x xs s, I (x :: xs) s → wS (b x s) { P with nx := I xs, ct := I xs, bk := P.nx }) → (∀ s, I [] s → P.nx s) → wS (loopF b ds s) P
  | [], s, h0, _, h2 => by simp only [loopF, wS]; exact h2 s h0
  | x :: xs, s, h0, h1, h2 => by
    have hb := h1 x xs s h0
    simp only [loopF]
    cases hr : b x s with
    | bad => rw [hr] at hb; simp only [wS] at hb
    | ex c y s' => rw [hr] at hb; simp only [R.bind, wS] at hb ⊢; exact hb
    | ok f s' =>
      rw [hr] at hb
      cases f <;> simp only [R.bind, wS] at hb ⊢
      case nx => exact s_for I xs s' hb h1 h2
      case ct => exact s_for I xs s' hb h1 h2
      case bk => exact hb
      case ret d fr => exact hb
/-- while, by a measure -/
theorem s_while {t : Sg → R Bool} {b : Sg → R Fl} (I : Nat → Sg → Prop) (h : ∀ m s, I m s → wE (t s) (fun k s => if k then wS (b s) { P with nx := fun s => ∃ m', m' < m ∧ I m' s, ct := fun s => ∃ m', m' < m ∧ I m' s, bk := P.nx } else P.nx s) P.ex) :
    ∀ (m : Nat) (s : Sg), I m s → wS (whR t b s) P := by
  have key : ∀ (m : Nat) (s : Sg), I m s → ∃ n r, whN t b n s = some r ∧ wS r P := by
    intro m
    induction m using Nat.strongRecOn with
    | _ m ih =>
      intro s hs
      have hw := h m s hs
      cases ht : t s with
      | bad => rw [ht, wE_bad] at hw; exact hw.elim
      | ex c x s1 => rw [ht, wE_ex] at hw; exact ⟨1, .ex c x s1, by simp only [whN, ht], by rw [wS_ex]; exact hw⟩
      | ok k s1 =>
        rw [ht, wE_ok] at hw
        cases k with
        | false => exact ⟨1, .ok .nx s1, by simp only [whN, ht], by rw [wS_nx]; exact hw⟩
        | true =>
          have hw : wS (b s1) { P with nx := fun s => ∃ m', m' < m ∧ I m' s, ct := fun s => ∃ m', m' < m ∧ I m' s, bk := P.nx } := hw
          cases hb : b s1 with
          | bad => rw [hb, wS_bad] at hw; exact hw.elim
          | ex c x s2 => rw [hb, wS_ex] at hw; exact ⟨1, .ex c x s2, by simp only [whN, ht, hb], by rw [wS_ex]; exact hw⟩
          | ok f s2 =>
            rw [hb] at hw
            cases f <;> simp only [wS_nx, wS_rt, wS_bk, wS_ct] at hw
            case nx =>
              obtain ⟨m', hm, hi⟩ := hw
              obtain ⟨n, r, e, hr⟩ := ih m' hm s2 hi
              exact ⟨n + 1, r, by simp only [whN, ht, hb]; exact e, hr⟩
            case ct =>
              obtain ⟨m', hm, hi⟩ := hw
              obtain ⟨n, r, e, hr⟩ := ih m' hm s2 hi
              exact ⟨n + 1, r, by simp only [whN, ht, hb]; exact e, hr⟩
            case bk => exact ⟨1, .ok .nx s2, by simp only [whN, ht, hb], by rw [wS_nx]; exact hw⟩
            case ret d fr => exact ⟨1, .ok (.ret d fr) s2, by simp only [whN, ht, hb], by rw [wS_rt]; exact hw⟩
  intro m s hs
  obtain ⟨n, r, e, hr⟩ := key m s hs
  rw [whR_eq e]; exact hr
theorem e_lcI {b : D → List D → Sg → R (List D)} {Q : List D → Sg → Prop} (I : List D → List D → Sg → Prop) : ∀ (ds acc : List D) (s : Sg), I ds acc s → (∀ x xs acc s, I (x :: xs) acc s → wE (b x acc s) (fun acc s => I xs acc s) X) → (∀ acc s, I [] acc s → Q acc s) → wE (lcR b ds acc s) Q X
  | [], acc, s, h0, _, h2 => by simp only [lcR, wE]; exact h2 acc s h0
  | x :: xs, acc, s, h0, h1, h2 => by
    have hb := h1 x xs acc s h0
    simp only [lcR]
    cases hr : b x acc s with
    | bad => rw [hr, wE_bad] at hb; exact hb.elim
    | ex c y s' => rw [hr] at hb; simp only [R.bind, wE] at hb ⊢; exact hb
    | ok acc' s' =>
      rw [hr, wE_ok] at hb
      exact e_lcI I xs acc' s' hb h1 h2
@[simp] theorem wE_lcB {vs : List Nat} {t : Tg} {kb : List D → Sg → R (List D)} {x : D} {acc : List D} {Q : List D → Sg → Prop} : wE (lcB vs t kb x acc s) Q X = wE (R.of (asg t x s) s) (fun s1 _ => wE (kb acc s1) (fun acc s => Q acc (wipeS s vs)) X) X := by
  unfold lcB
  simp only [wE_bind, wE_ok]
theorem wE_app {acc : List D} {y : D} {Q : List D → Sg → Prop} (h : acc.length < limN) (k : Q (acc ++ [y]) s) : wE (appR acc y s) Q X := by
  unfold appR
  rw [if_pos h, wE_ok]; exact k
theorem c_run {gl : Str → Option D} {T : Str → Option Fn} {n : Nat} {f : Str} {fn : Fn} {ds : List D} {Q : D → Bool → Slot → Prop} {X : Str → Option D → Slot → Prop} (hT : T f = some fn) (hn : 1 ≤ n) (hio : fn.io = false) (hl : ds.length = fn.np)
    (h : wS (evMs gl (callN gl T (n - 1)) fn.body (ds.map Slot.sh ++ List.replicate (fn.ns - fn.np) .un)) ⟨fun s => Q .non false .un, fun d fr s => Q d fr .un, fun c x s => X c x .un, fun _ => False, fun _ => False⟩) : wC (callN gl T n f .un ds) Q X := by
  obtain ⟨m, rfl⟩ : ∃ m, n = m + 1 := ⟨n - 1, by omega⟩
  rw [run_f hT hio hl]
  have hb : ∀ s, backIo fn .un s = .un := fun s => by unfold backIo; rw [hio]; rfl
  rw [Nat.add_sub_cancel] at h
  revert h
  generalize evMs gl (callN gl T m) fn.body _ = r
  intro h
  cases r with
  | bad => rw [wS_bad] at h; exact h.elim
  | ex c x s => simp only [endR, hb, wC]; rw [wS_ex] at h; exact h
  | ok fl s =>
    cases fl <;> simp only [wS_nx, wS_rt, wS_bk, wS_ct] at h
    case nx => simp only [endR, hb, wC]; exact h
    case ret d fr => simp only [endR, hb, wC]; exact h
theorem c_io {gl : Str → Option D} {T : Str → Option Fn} {n : Nat} {f : Str} {fn : Fn} {ds : List D} {p : Bool} {xs : List D} {Q : D → Bool → Slot → Prop} {X : Str → Option D → Slot → Prop} (hT : T f = some fn) (hn : 1 ≤ n) (hio : fn.io = true) (hl : ds.length + 1 = fn.np)
    (h : wS (evMs gl (callN gl T (n - 1)) fn.body (.ow true xs :: ds.map Slot.sh ++ List.replicate (fn.ns - fn.np) .un)) ⟨fun s => Q .non false (unpin p (s.getD 0 .un)), fun d fr s => Q d fr (unpin p (s.getD 0 .un)), fun c x s => X c x (unpin p (s.getD 0 .un)), fun _ => False, fun _ => False⟩) : wC (callN gl T n f (.ow p xs) ds) Q X := by
  obtain ⟨m, rfl⟩ : ∃ m, n = m + 1 := ⟨n - 1, by omega⟩
  rw [run_io hT hio hl]
  have hb : ∀ s, backIo fn (.ow p xs) s = unpin p (s.getD 0 .un) := fun s => by unfold backIo; rw [hio]; rfl
  rw [Nat.add_sub_cancel] at h
  revert h
  generalize evMs gl (callN gl T m) fn.body _ = r
  intro h
  cases r with
  | bad => rw [wS_bad] at h; exact h.elim
  | ex c x s => simp only [endR, hb, wC]; rw [wS_ex] at h; exact h
  | ok fl s =>
    cases fl <;> simp only [wS_nx, wS_rt, wS_bk, wS_ct] at h
    case nx => simp only [endR, hb, wC]; exact h
    case ret d fr => simp only [endR, hb, wC]; exact h
/-- a call that gives one value -/
theorem c_eq {r res : CR} (h : wC r (fun d fr io => CR.ret d fr io = res) (fun c x io => CR.ex c x io = res)) : r = res := by
  cases r <;> simp only [wC] at h
  case ret => exact h
  case ex => exact h
theorem c_of {r : CR} {d : D} {fr : Bool} {io : Slot} {Q : D → Bool → Slot → Prop} {X : Str → Option D → Slot → Prop} (e : r = .ret d fr io) (h : Q d fr io) : wC r Q X := by rw [e, wC_ret]; exact h
end
end IL
end
section
set_option maxHeartbeats 0
namespace Lw
open PySem PySem.Spec PyProof.Rows L2 IL
def top (i : Nat) : Stmt := PySem.Challenge.pw_chanceends_k75_plain_rules.main.body.getD i (.Pass ⟨0, 0, 0, 0⟩)
def topM (i j : Nat) : Stmt := match top i with | .ClassDef _ _ _ body _ _ _ _ _ _ _ => body.getD j (.Pass ⟨0, 0, 0, 0⟩) | _ => .Pass ⟨0, 0, 0, 0⟩
def f_gcd_of : IL.Fn := ⟨2, 2, false,
    (.cons (.whil (.cmp .ne (.loc 1) (.lit (.int 0))) (.cons (.par 0 1 (.loc 1) (.bin .mod (.loc 0) (.loc 1)))
    .nil))
    (.cons (.ret (.blt .abs (.cons false (.loc 0) .nil)))
    .nil))⟩
def r_gcd_of : IL.Row := ⟨"gcd_of", top 8, ["first", "second"], ["first", "second"], f_gcd_of, none⟩
def f_is_integer : IL.Fn := ⟨1, 1, false,
    (.cons (.ret (.and (.isi (.loc 0) [.int]) (.not (.isi (.loc 0) [.bool]))))
    .nil)⟩
def r_is_integer : IL.Row := ⟨"is_integer", top 9, ["value"], ["value"], f_is_integer, none⟩
def f_is_fraction : IL.Fn := ⟨1, 1, false,
    (.cons (.iff (.or (.not (.isi (.loc 0) [.tuple])) (.cmp .ne (.blt .len (.cons false (.loc 0) .nil)) (.lit (.int 2)))) (.cons (.ret (.lit (.bl false)))
    .nil) .nil)
    (.cons (.iff (.or (.not (.call "is_integer" (.cons false (.ix (.loc 0) (.lit (.int 0))) .nil))) (.or (.not (.call "is_integer" (.cons false (.ix (.loc 0) (.lit (.int 1))) .nil))) (.cmp .lt (.ix (.loc 0) (.lit (.int 1))) (.lit (.int 1))))) (.cons (.ret (.lit (.bl false)))
    .nil) .nil)
    (.cons (.ret (.cmp .eq (.call "gcd_of" (.cons false (.ix (.loc 0) (.lit (.int 0))) (.cons false (.ix (.loc 0) (.lit (.int 1))) .nil))) (.lit (.int 1))))
    .nil)))⟩
def r_is_fraction : IL.Row := ⟨"is_fraction", top 10, ["value"], ["value"], f_is_fraction, none⟩
def f_ratio : IL.Fn := ⟨2, 3, false,
    (.cons (.set 2 (.call "gcd_of" (.cons false (.loc 0) (.cons false (.loc 1) .nil))))
    (.cons (.iff (.cmp .lt (.loc 1) (.lit (.int 0))) (.cons (.set 2 (.neg (.loc 2)))
    .nil) .nil)
    (.cons (.ret (.tup (.cons false (.bin .fdiv (.loc 0) (.loc 2)) (.cons false (.bin .fdiv (.loc 1) (.loc 2)) .nil))))
    .nil)))⟩
def r_ratio : IL.Row := ⟨"ratio", top 11, ["numerator", "denominator"], ["numerator", "denominator", "common"], f_ratio, none⟩
def f_add_up : IL.Fn := ⟨2, 2, false,
    (.cons (.ret (.call "ratio" (.cons false (.bin .add (.bin .mul (.ix (.loc 0) (.lit (.int 0))) (.ix (.loc 1) (.lit (.int 1)))) (.bin .mul (.ix (.loc 1) (.lit (.int 0))) (.ix (.loc 0) (.lit (.int 1))))) (.cons false (.bin .mul (.ix (.loc 0) (.lit (.int 1))) (.ix (.loc 1) (.lit (.int 1)))) .nil))))
    .nil)⟩
def r_add_up : IL.Row := ⟨"add_up", top 12, ["first", "second"], ["first", "second"], f_add_up, none⟩
def f_take_off : IL.Fn := ⟨2, 2, false,
    (.cons (.ret (.call "ratio" (.cons false (.bin .sub (.bin .mul (.ix (.loc 0) (.lit (.int 0))) (.ix (.loc 1) (.lit (.int 1)))) (.bin .mul (.ix (.loc 1) (.lit (.int 0))) (.ix (.loc 0) (.lit (.int 1))))) (.cons false (.bin .mul (.ix (.loc 0) (.lit (.int 1))) (.ix (.loc 1) (.lit (.int 1)))) .nil))))
    .nil)⟩
def r_take_off : IL.Row := ⟨"take_off", top 13, ["first", "second"], ["first", "second"], f_take_off, none⟩
def f_is_below : IL.Fn := ⟨2, 2, false,
    (.cons (.ret (.cmp .lt (.bin .mul (.ix (.loc 0) (.lit (.int 0))) (.ix (.loc 1) (.lit (.int 1)))) (.bin .mul (.ix (.loc 1) (.lit (.int 0))) (.ix (.loc 0) (.lit (.int 1))))))
    .nil)⟩
def r_is_below : IL.Row := ⟨"is_below", top 14, ["first", "second"], ["first", "second"], f_is_below, none⟩
def f_is_name : IL.Fn := ⟨1, 2, false,
    (.cons (.iff (.or (.not (.isi (.loc 0) [.str])) (.not (.chn .le .le (.lit (.int 1)) (.blt .len (.cons false (.loc 0) .nil)) (.lit (.int 8))))) (.cons (.ret (.lit (.bl false)))
    .nil) .nil)
    (.cons (.ret (.and (.blt .all (.cons false (.lc [1] (.nm 1) (.seq (.loc 0)) .no (.cmp .isIn (.loc 1) (.glo "LETTERS"))) .nil)) (.cmp .notIn (.loc 0) (.glo "RESERVED"))))
    .nil))⟩
def r_is_name : IL.Row := ⟨"is_name", top 22, ["value"], ["value", "letter"], f_is_name, none⟩
def f_is_number : IL.Fn := ⟨1, 1, false,
    (.cons (.ret (.and (.call "is_fraction" (.cons false (.loc 0) .nil)) (.and (.cmp .le (.blt .abs (.cons false (.ix (.loc 0) (.lit (.int 0))) .nil)) (.glo "BIGGEST")) (.cmp .le (.ix (.loc 0) (.lit (.int 1))) (.glo "BIGGEST")))))
    .nil)⟩
def r_is_number : IL.Row := ⟨"is_number", top 23, ["value"], ["value"], f_is_number, none⟩
def f_check_names : IL.Fn := ⟨1, 3, false,
    (.cons (.iff (.or (.not (.isi (.loc 0) [.tuple])) (.not (.chn .le .le (.lit (.int 1)) (.blt .len (.cons false (.loc 0) .nil)) (.glo "MOST_NAMES")))) (.cons (.rais "InvalidNames" (.yes (.neg (.lit (.int 1)))))
    .nil) .nil)
    (.cons (.forr (.cons (.nm 1) (.cons (.nm 2) .nil)) (.enum (.seq (.loc 0))) (.cons (.iff (.or (.not (.call "is_name" (.cons false (.loc 2) .nil))) (.cmp .isIn (.loc 2) (.sl (.loc 0) .no (.yes (.loc 1))))) (.cons (.rais "InvalidNames" (.yes (.loc 1)))
    .nil) .nil)
    .nil))
    .nil))⟩
def r_check_names : IL.Row := ⟨"check_names", top 24, ["names"], ["names", "at", "name"], f_check_names, none⟩
def f_count_nodes : IL.Fn := ⟨3, 7, false,
    (.cons (.set 3 (.bin .add (.glo "MOST_NODES") (.lit (.int 1))))
    (.cons (.iff (.or (.cmp .eq (.loc 2) (.lit (.int 0))) (.or (.not (.isi (.loc 1) [.tuple])) (.cmp .eq (.blt .len (.cons false (.loc 1) .nil)) (.lit (.int 0))))) (.cons (.ret (.loc 3))
    .nil) .nil)
    (.cons (.set 4 (.ix (.loc 1) (.lit (.int 0))))
    (.cons (.iff (.not (.isi (.loc 4) [.str])) (.cons (.ret (.loc 3))
    .nil) .nil)
    (.cons (.iff (.cmp .eq (.blt .len (.cons false (.loc 1) .nil)) (.lit (.int 1))) (.cons (.ret (.ite (.or (.cmp .eq (.loc 4) (.lit (.str "yes"))) (.cmp .eq (.loc 4) (.lit (.str "no")))) (.lit (.int 1)) (.loc 3)))
    .nil) .nil)
    (.cons (.iff (.and (.cmp .eq (.blt .len (.cons false (.loc 1) .nil)) (.lit (.int 2))) (.cmp .eq (.loc 4) (.lit (.str "is")))) (.cons (.set 6 (.and (.call "is_name" (.cons false (.ix (.loc 1) (.lit (.int 1))) .nil)) (.or (.isl false (.loc 0) .non) (.cmp .isIn (.ix (.loc 1) (.lit (.int 1))) (.loc 0)))))
    (.cons (.ret (.ite (.loc 6) (.lit (.int 1)) (.loc 3)))
    .nil)) .nil)
    (.cons (.iff (.and (.cmp .eq (.blt .len (.cons false (.loc 1) .nil)) (.lit (.int 2))) (.cmp .eq (.loc 4) (.lit (.str "not")))) (.cons (.ret (.blt .min2 (.cons false (.loc 3) (.cons false (.bin .add (.lit (.int 1)) (.call "count_nodes" (.cons false (.loc 0) (.cons false (.ix (.loc 1) (.lit (.int 1))) (.cons false (.bin .sub (.loc 2) (.lit (.int 1))) .nil))))) .nil))))
    .nil) .nil)
    (.cons (.iff (.or (.cmp .ne (.blt .len (.cons false (.loc 1) .nil)) (.lit (.int 3))) (.and (.cmp .ne (.loc 4) (.lit (.str "and"))) (.cmp .ne (.loc 4) (.lit (.str "or"))))) (.cons (.ret (.loc 3))
    .nil) .nil)
    (.cons (.set 5 (.call "count_nodes" (.cons false (.loc 0) (.cons false (.ix (.loc 1) (.lit (.int 1))) (.cons false (.bin .sub (.loc 2) (.lit (.int 1))) .nil)))))
    (.cons (.iff (.cmp .ge (.loc 5) (.loc 3)) (.cons (.ret (.loc 3))
    .nil) .nil)
    (.cons (.ret (.blt .min2 (.cons false (.loc 3) (.cons false (.bin .add (.bin .add (.lit (.int 1)) (.loc 5)) (.call "count_nodes" (.cons false (.loc 0) (.cons false (.ix (.loc 1) (.lit (.int 2))) (.cons false (.bin .sub (.loc 2) (.lit (.int 1))) .nil))))) .nil))))
    .nil)))))))))))⟩
def r_count_nodes : IL.Row := ⟨"count_nodes", top 25, ["names", "formula", "depth"], ["names", "formula", "depth", "too_many", "word", "left", "known"], f_count_nodes, none⟩
def f_is_formula : IL.Fn := ⟨2, 2, false,
    (.cons (.ret (.cmp .le (.call "count_nodes" (.cons false (.loc 0) (.cons false (.loc 1) (.cons false (.glo "MOST_DEPTH") .nil)))) (.glo "MOST_NODES")))
    .nil)⟩
def r_is_formula : IL.Row := ⟨"is_formula", top 26, ["names", "formula"], ["names", "formula"], f_is_formula, none⟩
def f_check_formula : IL.Fn := ⟨2, 2, false,
    (.cons (.iff (.not (.call "is_formula" (.cons false (.loc 0) (.cons false (.loc 1) .nil)))) (.cons (.rais "InvalidFormula" .no)
    .nil) .nil)
    .nil)⟩
def r_check_formula : IL.Row := ⟨"check_formula", top 27, ["names", "formula"], ["names", "formula"], f_check_formula, none⟩
def f_are_ends : IL.Fn := ⟨2, 2, false,
    (.cons (.iff (.or (.not (.call "is_number" (.cons false (.loc 0) .nil))) (.not (.call "is_number" (.cons false (.loc 1) .nil)))) (.cons (.ret (.lit (.bl false)))
    .nil) .nil)
    (.cons (.ret (.and (.not (.call "is_below" (.cons false (.loc 0) (.cons false (.glo "ZERO") .nil)))) (.and (.not (.call "is_below" (.cons false (.loc 1) (.cons false (.loc 0) .nil)))) (.not (.call "is_below" (.cons false (.glo "ONE") (.cons false (.loc 1) .nil)))))))
    .nil))⟩
def r_are_ends : IL.Row := ⟨"are_ends", top 29, ["low", "high"], ["low", "high"], f_are_ends, none⟩
def f_lesser : IL.Fn := ⟨2, 2, false,
    (.cons (.iff (.call "is_below" (.cons false (.loc 1) (.cons false (.loc 0) .nil))) (.cons (.ret (.loc 1))
    .nil) .nil)
    (.cons (.ret (.loc 0))
    .nil))⟩
def r_lesser : IL.Row := ⟨"lesser", top 31, ["one", "other"], ["one", "other"], f_lesser, none⟩
def f_greater : IL.Fn := ⟨2, 2, false,
    (.cons (.iff (.call "is_below" (.cons false (.loc 0) (.cons false (.loc 1) .nil))) (.cons (.ret (.loc 1))
    .nil) .nil)
    (.cons (.ret (.loc 0))
    .nil))⟩
def r_greater : IL.Row := ⟨"greater", top 32, ["one", "other"], ["one", "other"], f_greater, none⟩
def f_is_span : IL.Fn := ⟨1, 1, false,
    (.cons (.ret (.and (.isi (.loc 0) [.tuple]) (.and (.cmp .eq (.blt .len (.cons false (.loc 0) .nil)) (.lit (.int 2))) (.call "are_ends" (.cons false (.ix (.loc 0) (.lit (.int 0))) (.cons false (.ix (.loc 0) (.lit (.int 1))) .nil))))))
    .nil)⟩
def r_is_span : IL.Row := ⟨"is_span", top 33, ["span"], ["span"], f_is_span, none⟩
def f_check_spans : IL.Fn := ⟨2, 4, false,
    (.cons (.iff (.or (.not (.isi (.loc 1) [.tuple])) (.cmp .ne (.blt .len (.cons false (.loc 1) .nil)) (.blt .len (.cons false (.loc 0) .nil)))) (.cons (.rais "InvalidSpans" (.yes (.neg (.lit (.int 1)))))
    .nil) .nil)
    (.cons (.forr (.cons (.nm 2) (.cons (.nm 3) .nil)) (.enum (.seq (.loc 1))) (.cons (.iff (.not (.call "is_span" (.cons false (.loc 3) .nil))) (.cons (.rais "InvalidSpans" (.yes (.loc 2)))
    .nil) .nil)
    .nil))
    .nil))⟩
def r_check_spans : IL.Row := ⟨"check_spans", top 34, ["names", "spans"], ["names", "spans", "at", "span"], f_check_spans, none⟩
def f_both_plain : IL.Fn := ⟨2, 3, false,
    (.cons (.set 2 (.call "greater" (.cons false (.glo "ZERO") (.cons false (.call "take_off" (.cons false (.call "add_up" (.cons false (.ix (.loc 0) (.lit (.int 0))) (.cons false (.ix (.loc 1) (.lit (.int 0))) .nil))) (.cons false (.glo "ONE") .nil))) .nil))))
    (.cons (.ret (.tup (.cons false (.loc 2) (.cons false (.call "lesser" (.cons false (.ix (.loc 0) (.lit (.int 1))) (.cons false (.ix (.loc 1) (.lit (.int 1))) .nil))) .nil))))
    .nil))⟩
def r_both_plain : IL.Row := ⟨"both_plain", top 35, ["one", "other"], ["one", "other", "low"], f_both_plain, none⟩
def f_either_plain : IL.Fn := ⟨2, 3, false,
    (.cons (.set 2 (.call "lesser" (.cons false (.glo "ONE") (.cons false (.call "add_up" (.cons false (.ix (.loc 0) (.lit (.int 1))) (.cons false (.ix (.loc 1) (.lit (.int 1))) .nil))) .nil))))
    (.cons (.ret (.tup (.cons false (.call "greater" (.cons false (.ix (.loc 0) (.lit (.int 0))) (.cons false (.ix (.loc 1) (.lit (.int 0))) .nil))) (.cons false (.loc 2) .nil))))
    .nil))⟩
def r_either_plain : IL.Row := ⟨"either_plain", top 36, ["one", "other"], ["one", "other", "high"], f_either_plain, none⟩
def f_pair_of : IL.Fn := ⟨2, 4, false,
    (.cons (.mat (.ix (.loc 1) (.lit (.int 0))) (.cons "yes" none (.cons (.ret (.tup (.cons false (.glo "ONE") (.cons false (.glo "ONE") .nil))))
    .nil) (.cons "no" none (.cons (.ret (.tup (.cons false (.glo "ZERO") (.cons false (.glo "ZERO") .nil))))
    .nil) (.cons "is" none (.cons (.ret (.ix (.loc 0) (.ix (.loc 1) (.lit (.int 1)))))
    .nil) (.cons "not" none (.cons (.unp (.cons (.nm 2) (.cons (.nm 3) .nil)) (.call "pair_of" (.cons false (.loc 0) (.cons false (.ix (.loc 1) (.lit (.int 1))) .nil))))
    (.cons (.ret (.tup (.cons false (.call "take_off" (.cons false (.glo "ONE") (.cons false (.loc 3) .nil))) (.cons false (.call "take_off" (.cons false (.glo "ONE") (.cons false (.loc 2) .nil))) .nil))))
    .nil)) (.cons "and" none (.cons (.ret (.call "both_plain" (.cons false (.call "pair_of" (.cons false (.loc 0) (.cons false (.ix (.loc 1) (.lit (.int 1))) .nil))) (.cons false (.call "pair_of" (.cons false (.loc 0) (.cons false (.ix (.loc 1) (.lit (.int 2))) .nil))) .nil))))
    .nil) .nil))))))
    (.cons (.ret (.call "either_plain" (.cons false (.call "pair_of" (.cons false (.loc 0) (.cons false (.ix (.loc 1) (.lit (.int 1))) .nil))) (.cons false (.call "pair_of" (.cons false (.loc 0) (.cons false (.ix (.loc 1) (.lit (.int 2))) .nil))) .nil))))
    .nil))⟩
def r_pair_of : IL.Row := ⟨"pair_of", top 37, ["known", "formula"], ["known", "formula", "low", "high"], f_pair_of, none⟩
def f_plain : IL.Fn := ⟨3, 6, false,
    (.cons (.ex (.call "check_names" (.cons false (.loc 0) .nil)))
    (.cons (.ex (.call "check_spans" (.cons false (.loc 0) (.cons false (.loc 1) .nil))))
    (.cons (.ex (.call "check_formula" (.cons false (.loc 0) (.cons false (.loc 2) .nil))))
    (.cons (.set 3 (.dct [4, 5] (.cons (.nm 4) (.cons (.nm 5) .nil)) (.zip (.seq (.loc 0)) (.seq (.loc 1))) (.loc 4) (.loc 5)))
    (.cons (.ret (.call "pair_of" (.cons false (.loc 3) (.cons false (.loc 2) .nil))))
    .nil)))))⟩
def r_plain : IL.Row := ⟨"plain", top 38, ["names", "spans", "formula"], ["names", "spans", "formula", "known", "name", "span"], f_plain, none⟩
def f__law_table : IL.Fn := ⟨0, 1, false,
    (.cons (.set 0 (.lst (.cons false (.lit (.int 4183)) (.cons false (.lit (.int 977)) (.cons false (.lit (.int 6520)) (.cons false (.lit (.int 3301)) (.cons false (.lit (.int 8846)) (.cons false (.lit (.int 1259)) (.cons false (.lit (.int 7094)) (.cons false (.lit (.int 2635)) (.cons false (.lit (.int 5412)) (.cons false (.lit (.int 9968)) (.cons false (.lit (.int 31)) (.cons false (.lit (.int 6747)) (.cons false (.lit (.int 1902)) (.cons false (.lit (.int 8273)) (.cons false (.lit (.int 4550)) (.cons false (.lit (.int 3119)) (.cons false (.lit (.int 7486)) (.cons false (.lit (.int 625)) .nil))))))))))))))))))))
    (.cons (.set 0 (.bin .add (.loc 0) (.lst (.cons false (.lit (.int 9037)) (.cons false (.lit (.int 5204)) (.cons false (.lit (.int 1378)) (.cons false (.lit (.int 6891)) (.cons false (.lit (.int 2946)) (.cons false (.lit (.int 8015)) (.cons false (.lit (.int 4667)) (.cons false (.lit (.int 193)) (.cons false (.lit (.int 7352)) (.cons false (.lit (.int 3829)) (.cons false (.lit (.int 9510)) (.cons false (.lit (.int 2074)) (.cons false (.lit (.int 5981)) (.cons false (.lit (.int 8432)) (.cons false (.lit (.int 746)) (.cons false (.lit (.int 6163)) (.cons false (.lit (.int 3508)) .nil))))))))))))))))))))
    (.cons (.set 0 (.bin .add (.loc 0) (.lst (.cons false (.lit (.int 9295)) (.cons false (.lit (.int 1641)) (.cons false (.lit (.int 7820)) (.cons false (.lit (.int 4097)) (.cons false (.lit (.int 2316)) (.cons false (.lit (.int 5733)) (.cons false (.lit (.int 8954)) (.cons false (.lit (.int 1480)) (.cons false (.lit (.int 6609)) (.cons false (.lit (.int 372)) (.cons false (.lit (.int 9171)) (.cons false (.lit (.int 3046)) (.cons false (.lit (.int 7567)) (.cons false (.lit (.int 5828)) (.cons false (.lit (.int 2203)) (.cons false (.lit (.int 8690)) (.cons false (.lit (.int 4415)) .nil))))))))))))))))))))
    (.cons (.set 0 (.bin .add (.loc 0) (.lst (.cons false (.lit (.int 1136)) (.cons false (.lit (.int 6974)) (.cons false (.lit (.int 3757)) (.cons false (.lit (.int 9382)) (.cons false (.lit (.int 509)) (.cons false (.lit (.int 7241)) (.cons false (.lit (.int 2868)) (.cons false (.lit (.int 5095)) (.cons false (.lit (.int 8328)) .nil))))))))))))
    (.cons (.ret (.loc 0))
    .nil)))))⟩
def r__law_table : IL.Row := ⟨"_law_table", top 40, [], ["_law_row"], f__law_table, none⟩
def f__law_pool : IL.Fn := ⟨1, 1, false,
    (.cons (.ret (.bin .add (.lst (.cons false (.lit (.int 0)) (.cons false (.lit (.int 0)) .nil))) (.blt .list (.cons false (.loc 0) .nil))))
    .nil)⟩
def r__law_pool : IL.Row := ⟨"_law_pool", top 41, ["_law_script"], ["_law_script"], f__law_pool, none⟩
def f__law_draw : IL.Fn := ⟨2, 6, true,
    (.cons (.iff (.cmp .eq (.blt .len (.cons false (.loc 0) .nil)) (.lit (.int 2))) (.cons (.app 0 (.lit (.int 0)))
    .nil) .nil)
    (.cons (.put 0 (.lit (.int 1)) (.bin .add (.ix (.loc 0) (.lit (.int 1))) (.lit (.int 1))))
    (.cons (.set 2 (.bin .add (.lit (.int 2)) (.bin .mod (.blt .int (.cons false (.ix (.loc 0) (.lit (.int 0))) .nil)) (.bin .sub (.blt .len (.cons false (.loc 0) .nil)) (.lit (.int 2))))))
    (.cons (.set 3 (.blt .int (.cons false (.ix (.loc 0) (.loc 2)) .nil)))
    (.cons (.iff (.cmp .ge (.loc 3) (.bin .pow (.lit (.int 10)) (.lit (.int 18)))) (.cons (.put 0 (.loc 2) (.bin .fdiv (.loc 3) (.loc 1)))
    (.cons (.ret (.bin .mod (.blt .int (.cons false (.loc 3) .nil)) (.loc 1)))
    .nil)) .nil)
    (.cons (.put 0 (.lit (.int 0)) (.bin .add (.ix (.loc 0) (.lit (.int 0))) (.lit (.int 1))))
    (.cons (.set 4 (.blt .int (.cons false (.ix (.loc 0) (.lit (.int 1))) .nil)))
    (.cons (.set 5 (.bin .add (.bin .add (.bin .mul (.loc 3) (.lit (.int 10007))) (.bin .mul (.bin .fdiv (.loc 3) (.lit (.int 13))) (.bin .mul (.lit (.int 7)) (.loc 4)))) (.ix (.call "_law_table" .nil) (.bin .mod (.loc 4) (.lit (.int 61))))))
    (.cons (.ret (.bin .mod (.blt .int (.cons false (.loc 5) .nil)) (.loc 1)))
    .nil)))))))))⟩
def r__law_draw : IL.Row := ⟨"_law_draw", top 42, ["_law_pool_here", "_law_many"], ["_law_pool_here", "_law_many", "_law_at", "_law_cell", "_law_turn", "_law_number"], f__law_draw, none⟩
def f__law_names : IL.Fn := ⟨2, 9, true,
    (.cons (.set 2 (.lit (.str "abcdefghijklmnopqrstuvwxyz")))
    (.cons (.set 3 (.lst (.cons false (.lit (.str "and")) (.cons false (.lit (.str "or")) (.cons false (.lit (.str "not")) (.cons false (.lit (.str "yes")) (.cons false (.lit (.str "no")) (.cons false (.lit (.str "is")) (.cons false (.lit (.str "given")) (.cons false (.lit (.str "nomore")) (.cons false (.lit (.str "from")) (.cons false (.lit (.str "to")) .nil))))))))))))
    (.cons (.set 4 (.lst .nil))
    (.cons (.forr (.nm 5) (.rng (.bin .add (.lit (.int 1)) (.cio "_law_draw" 0 (.cons false (.loc 1) .nil)))) (.cons (.set 6 (.lit (.str "")))
    (.cons (.forr (.nm 7) (.rng (.bin .add (.lit (.int 1)) (.cio "_law_draw" 0 (.cons false (.lit (.int 8)) .nil)))) (.cons (.set 6 (.bin .add (.loc 6) (.ix (.loc 2) (.cio "_law_draw" 0 (.cons false (.lit (.int 26)) .nil)))))
    .nil))
    (.cons (.iff (.or (.cmp .isIn (.loc 6) (.loc 4)) (.cmp .isIn (.loc 6) (.loc 3))) (.cons (.forr (.nm 8) (.seq (.lst (.cons false (.lit (.str "qa")) (.cons false (.lit (.str "qb")) (.cons false (.lit (.str "qc")) (.cons false (.lit (.str "qd")) (.cons false (.lit (.str "qe")) .nil))))))) (.cons (.iff (.cmp .notIn (.loc 8) (.loc 4)) (.cons (.set 6 (.loc 8))
    .nil) .nil)
    .nil))
    .nil) .nil)
    (.cons (.app 4 (.loc 6))
    .nil)))))
    (.cons (.ret (.blt .tuple (.cons false (.loc 4) .nil)))
    .nil)))))⟩
def r__law_names : IL.Row := ⟨"_law_names", top 43, ["_law_pool_here", "_law_most"], ["_law_pool_here", "_law_most", "_law_letters", "_law_reserved", "_law_names_here", "_law_k", "_law_name", "_law_j", "_law_spare"], f__law_names, none⟩
def f__law_leaf : IL.Fn := ⟨2, 3, true,
    (.cons (.set 2 (.cio "_law_draw" 0 (.cons false (.bin .add (.bin .mul (.lit (.int 3)) (.blt .len (.cons false (.loc 1) .nil))) (.lit (.int 2))) .nil)))
    (.cons (.iff (.cmp .eq (.loc 2) (.lit (.int 0))) (.cons (.ret (.tup (.cons false (.lit (.str "yes")) .nil)))
    .nil) .nil)
    (.cons (.iff (.cmp .eq (.loc 2) (.lit (.int 1))) (.cons (.ret (.tup (.cons false (.lit (.str "no")) .nil)))
    .nil) .nil)
    (.cons (.ret (.tup (.cons false (.lit (.str "is")) (.cons false (.ix (.loc 1) (.bin .mod (.loc 2) (.blt .len (.cons false (.loc 1) .nil)))) .nil))))
    .nil))))⟩
def r__law_leaf : IL.Row := ⟨"_law_leaf", top 44, ["_law_pool_here", "_law_names_here"], ["_law_pool_here", "_law_names_here", "_law_k"], f__law_leaf, none⟩
def f__law_plus : IL.Fn := ⟨2, 2, false,
    (.cons (.iff (.cmp .eq (.ix (.loc 0) (.lit (.int 1))) (.ix (.loc 1) (.lit (.int 1)))) (.cons (.ret (.tup (.cons false (.bin .add (.ix (.loc 0) (.lit (.int 0))) (.ix (.loc 1) (.lit (.int 0)))) (.cons false (.ix (.loc 0) (.lit (.int 1))) .nil))))
    .nil) .nil)
    (.cons (.ret (.tup (.cons false (.bin .add (.bin .mul (.ix (.loc 0) (.lit (.int 0))) (.ix (.loc 1) (.lit (.int 1)))) (.bin .mul (.ix (.loc 1) (.lit (.int 0))) (.ix (.loc 0) (.lit (.int 1))))) (.cons false (.bin .mul (.ix (.loc 0) (.lit (.int 1))) (.ix (.loc 1) (.lit (.int 1)))) .nil))))
    .nil))⟩
def r__law_plus : IL.Row := ⟨"_law_plus", top 45, ["_law_x", "_law_y"], ["_law_x", "_law_y"], f__law_plus, none⟩
def f__law_below : IL.Fn := ⟨2, 2, false,
    (.cons (.ret (.cmp .lt (.bin .mul (.ix (.loc 0) (.lit (.int 0))) (.ix (.loc 1) (.lit (.int 1)))) (.bin .mul (.ix (.loc 1) (.lit (.int 0))) (.ix (.loc 0) (.lit (.int 1))))))
    .nil)⟩
def r__law_below : IL.Row := ⟨"_law_below", top 46, ["_law_x", "_law_y"], ["_law_x", "_law_y"], f__law_below, none⟩
def f__law_same : IL.Fn := ⟨2, 2, false,
    (.cons (.ret (.cmp .eq (.bin .mul (.ix (.loc 0) (.lit (.int 0))) (.ix (.loc 1) (.lit (.int 1)))) (.bin .mul (.ix (.loc 1) (.lit (.int 0))) (.ix (.loc 0) (.lit (.int 1))))))
    .nil)⟩
def r__law_same : IL.Row := ⟨"_law_same", top 47, ["_law_x", "_law_y"], ["_law_x", "_law_y"], f__law_same, none⟩
def f__law_gcd : IL.Fn := ⟨2, 4, false,
    (.cons (.set 0 (.blt .abs (.cons false (.loc 0) .nil)))
    (.cons (.set 1 (.blt .abs (.cons false (.loc 1) .nil)))
    (.cons (.forr (.nm 2) (.rng (.bin .add (.bin .mul (.lit (.int 2)) (.mth .bits (.loc 1) .nil)) (.lit (.int 2)))) (.cons (.iff (.cmp .ne (.loc 1) (.lit (.int 0))) (.cons (.set 3 (.bin .mod (.blt .int (.cons false (.loc 0) .nil)) (.loc 1)))
    (.cons (.set 0 (.loc 1))
    (.cons (.set 1 (.loc 3))
    .nil))) .nil)
    .nil))
    (.cons (.ret (.loc 0))
    .nil))))⟩
def r__law_gcd : IL.Row := ⟨"_law_gcd", top 48, ["_law_a", "_law_b"], ["_law_a", "_law_b", "_law_k", "_law_rest"], f__law_gcd, none⟩
def f__law_lowest : IL.Fn := ⟨2, 3, false,
    (.cons (.set 2 (.call "_law_gcd" (.cons false (.loc 0) (.cons false (.loc 1) .nil))))
    (.cons (.iff (.cmp .lt (.loc 1) (.lit (.int 0))) (.cons (.set 2 (.neg (.loc 2)))
    .nil) .nil)
    (.cons (.ret (.tup (.cons false (.bin .fdiv (.loc 0) (.loc 2)) (.cons false (.bin .fdiv (.loc 1) (.loc 2)) .nil))))
    .nil)))⟩
def r__law_lowest : IL.Row := ⟨"_law_lowest", top 49, ["_law_a", "_law_b"], ["_law_a", "_law_b", "_law_common"], f__law_lowest, none⟩
def f__law_integer : IL.Fn := ⟨1, 1, false,
    (.cons (.ret (.and (.isi (.loc 0) [.int]) (.not (.isi (.loc 0) [.bool]))))
    .nil)⟩
def r__law_integer : IL.Row := ⟨"_law_integer", top 50, ["_law_value"], ["_law_value"], f__law_integer, none⟩
def f__law_fraction : IL.Fn := ⟨1, 1, false,
    (.cons (.iff (.or (.not (.isi (.loc 0) [.tuple])) (.cmp .ne (.blt .len (.cons false (.loc 0) .nil)) (.lit (.int 2)))) (.cons (.ret (.lit (.bl false)))
    .nil) .nil)
    (.cons (.iff (.or (.not (.call "_law_integer" (.cons false (.ix (.loc 0) (.lit (.int 0))) .nil))) (.or (.not (.call "_law_integer" (.cons false (.ix (.loc 0) (.lit (.int 1))) .nil))) (.cmp .lt (.ix (.loc 0) (.lit (.int 1))) (.lit (.int 1))))) (.cons (.ret (.lit (.bl false)))
    .nil) .nil)
    (.cons (.ret (.cmp .eq (.call "_law_gcd" (.cons false (.ix (.loc 0) (.lit (.int 0))) (.cons false (.ix (.loc 0) (.lit (.int 1))) .nil))) (.lit (.int 1))))
    .nil)))⟩
def r__law_fraction : IL.Row := ⟨"_law_fraction", top 51, ["_law_value"], ["_law_value"], f__law_fraction, none⟩
def f__law_tree : IL.Fn := ⟨4, 8, true,
    (.cons (.set 4 (.cio "_law_draw" 0 (.cons false (.lit (.int 8)) .nil)))
    (.cons (.iff (.or (.cmp .eq (.loc 2) (.lit (.int 1))) (.or (.cmp .eq (.loc 3) (.lit (.int 1))) (.cmp .lt (.loc 4) (.lit (.int 2))))) (.cons (.ret (.cio "_law_leaf" 0 (.cons false (.loc 1) .nil)))
    .nil) .nil)
    (.cons (.iff (.or (.cmp .eq (.loc 2) (.lit (.int 2))) (.cmp .lt (.loc 4) (.lit (.int 4)))) (.cons (.ret (.tup (.cons false (.lit (.str "not")) (.cons false (.cio "_law_tree" 0 (.cons false (.loc 1) (.cons false (.bin .sub (.loc 2) (.lit (.int 1))) (.cons false (.bin .sub (.loc 3) (.lit (.int 1))) .nil)))) .nil))))
    .nil) .nil)
    (.cons (.set 5 (.bin .add (.lit (.int 1)) (.cio "_law_draw" 0 (.cons false (.bin .sub (.loc 2) (.lit (.int 2))) .nil))))
    (.cons (.set 6 (.cio "_law_tree" 0 (.cons false (.loc 1) (.cons false (.loc 5) (.cons false (.bin .sub (.loc 3) (.lit (.int 1))) .nil)))))
    (.cons (.set 7 (.cio "_law_tree" 0 (.cons false (.loc 1) (.cons false (.bin .sub (.bin .sub (.loc 2) (.lit (.int 1))) (.loc 5)) (.cons false (.bin .sub (.loc 3) (.lit (.int 1))) .nil)))))
    (.cons (.ret (.tup (.cons false (.ix (.lst (.cons false (.lit (.str "and")) (.cons false (.lit (.str "or")) .nil))) (.bin .mod (.loc 4) (.lit (.int 2)))) (.cons false (.loc 6) (.cons false (.loc 7) .nil)))))
    .nil)))))))⟩
def r__law_tree : IL.Row := ⟨"_law_tree", top 52, ["_law_pool_here", "_law_names_here", "_law_room", "_law_depth"], ["_law_pool_here", "_law_names_here", "_law_room", "_law_depth", "_law_kind", "_law_part", "_law_left", "_law_right"], f__law_tree, none⟩
def f__law_wide_span : IL.Fn := ⟨1, 5, true,
    (.cons (.set 1 (.cio "_law_draw" 0 (.cons false (.lit (.int 6)) .nil)))
    (.cons (.set 2 (.bin .add (.lit (.int 1)) (.cio "_law_draw" 0 (.cons false (.lit (.int 60)) .nil))))
    (.cons (.iff (.cmp .eq (.loc 1) (.lit (.int 0))) (.cons (.set 2 (.bin .sub (.bin .pow (.lit (.int 10)) (.lit (.int 60))) (.cio "_law_draw" 0 (.cons false (.bin .pow (.lit (.int 10)) (.lit (.int 12))) .nil))))
    .nil) .nil)
    (.cons (.iff (.cmp .eq (.loc 1) (.lit (.int 1))) (.cons (.set 2 (.bin .add (.lit (.int 1)) (.cio "_law_draw" 0 (.cons false (.bin .pow (.lit (.int 10)) (.lit (.int 17))) .nil))))
    .nil) .nil)
    (.cons (.set 3 (.cio "_law_draw" 0 (.cons false (.bin .add (.loc 2) (.lit (.int 1))) .nil)))
    (.cons (.set 4 (.cio "_law_draw" 0 (.cons false (.bin .add (.loc 2) (.lit (.int 1))) .nil)))
    (.cons (.iff (.cmp .eq (.loc 1) (.lit (.int 2))) (.cons (.set 3 (.lit (.int 0)))
    .nil) .nil)
    (.cons (.iff (.cmp .eq (.loc 1) (.lit (.int 3))) (.cons (.set 4 (.loc 2))
    .nil) .nil)
    (.cons (.ret (.tup (.cons false (.call "_law_lowest" (.cons false (.blt .min2 (.cons false (.loc 3) (.cons false (.loc 4) .nil))) (.cons false (.loc 2) .nil))) (.cons false (.call "_law_lowest" (.cons false (.blt .max2 (.cons false (.loc 3) (.cons false (.loc 4) .nil))) (.cons false (.loc 2) .nil))) .nil))))
    .nil)))))))))⟩
def r__law_wide_span : IL.Row := ⟨"_law_wide_span", top 53, ["_law_pool_here"], ["_law_pool_here", "_law_kind", "_law_many", "_law_one", "_law_two"], f__law_wide_span, none⟩
def f__law_less_of : IL.Fn := ⟨2, 2, false,
    (.cons (.iff (.call "_law_below" (.cons false (.loc 1) (.cons false (.loc 0) .nil))) (.cons (.ret (.loc 1))
    .nil) .nil)
    (.cons (.ret (.loc 0))
    .nil))⟩
def r__law_less_of : IL.Row := ⟨"_law_less_of", top 54, ["_law_x", "_law_y"], ["_law_x", "_law_y"], f__law_less_of, none⟩
def f__law_more_of : IL.Fn := ⟨2, 2, false,
    (.cons (.iff (.call "_law_below" (.cons false (.loc 0) (.cons false (.loc 1) .nil))) (.cons (.ret (.loc 1))
    .nil) .nil)
    (.cons (.ret (.loc 0))
    .nil))⟩
def r__law_more_of : IL.Row := ⟨"_law_more_of", top 55, ["_law_x", "_law_y"], ["_law_x", "_law_y"], f__law_more_of, none⟩
def f__law_and_pair : IL.Fn := ⟨2, 3, false,
    (.cons (.set 2 (.call "_law_plus" (.cons false (.call "_law_plus" (.cons false (.ix (.loc 0) (.lit (.int 0))) (.cons false (.ix (.loc 1) (.lit (.int 0))) .nil))) (.cons false (.tup (.cons false (.neg (.lit (.int 1))) (.cons false (.lit (.int 1)) .nil))) .nil))))
    (.cons (.ret (.tup (.cons false (.call "_law_more_of" (.cons false (.tup (.cons false (.lit (.int 0)) (.cons false (.lit (.int 1)) .nil))) (.cons false (.loc 2) .nil))) (.cons false (.call "_law_less_of" (.cons false (.ix (.loc 0) (.lit (.int 1))) (.cons false (.ix (.loc 1) (.lit (.int 1))) .nil))) .nil))))
    .nil))⟩
def r__law_and_pair : IL.Row := ⟨"_law_and_pair", top 56, ["_law_one", "_law_other"], ["_law_one", "_law_other", "_law_low"], f__law_and_pair, none⟩
def f__law_or_pair : IL.Fn := ⟨2, 3, false,
    (.cons (.set 2 (.call "_law_plus" (.cons false (.ix (.loc 0) (.lit (.int 1))) (.cons false (.ix (.loc 1) (.lit (.int 1))) .nil))))
    (.cons (.ret (.tup (.cons false (.call "_law_more_of" (.cons false (.ix (.loc 0) (.lit (.int 0))) (.cons false (.ix (.loc 1) (.lit (.int 0))) .nil))) (.cons false (.call "_law_less_of" (.cons false (.tup (.cons false (.lit (.int 1)) (.cons false (.lit (.int 1)) .nil))) (.cons false (.loc 2) .nil))) .nil))))
    .nil))⟩
def r__law_or_pair : IL.Row := ⟨"_law_or_pair", top 57, ["_law_one", "_law_other"], ["_law_one", "_law_other", "_law_high"], f__law_or_pair, none⟩
def f__law_not_pair : IL.Fn := ⟨1, 1, false,
    (.cons (.ret (.tup (.cons false (.call "_law_plus" (.cons false (.tup (.cons false (.lit (.int 1)) (.cons false (.lit (.int 1)) .nil))) (.cons false (.tup (.cons false (.neg (.ix (.ix (.loc 0) (.lit (.int 1))) (.lit (.int 0)))) (.cons false (.ix (.ix (.loc 0) (.lit (.int 1))) (.lit (.int 1))) .nil))) .nil))) (.cons false (.call "_law_plus" (.cons false (.tup (.cons false (.lit (.int 1)) (.cons false (.lit (.int 1)) .nil))) (.cons false (.tup (.cons false (.neg (.ix (.ix (.loc 0) (.lit (.int 0))) (.lit (.int 0)))) (.cons false (.ix (.ix (.loc 0) (.lit (.int 0))) (.lit (.int 1))) .nil))) .nil))) .nil))))
    .nil)⟩
def r__law_not_pair : IL.Row := ⟨"_law_not_pair", top 58, ["_law_one"], ["_law_one"], f__law_not_pair, none⟩
def f__law_pair : IL.Fn := ⟨1, 1, false,
    (.cons (.ret (.and (.isi (.loc 0) [.tuple]) (.and (.cmp .eq (.blt .len (.cons false (.loc 0) .nil)) (.lit (.int 2))) (.and (.call "_law_fraction" (.cons false (.ix (.loc 0) (.lit (.int 0))) .nil)) (.call "_law_fraction" (.cons false (.ix (.loc 0) (.lit (.int 1))) .nil))))))
    .nil)⟩
def r__law_pair : IL.Row := ⟨"_law_pair", top 59, ["_law_pair_here"], ["_law_pair_here"], f__law_pair, none⟩
def f__law_same_pair : IL.Fn := ⟨2, 2, false,
    (.cons (.ret (.and (.call "_law_same" (.cons false (.ix (.loc 0) (.lit (.int 0))) (.cons false (.ix (.loc 1) (.lit (.int 0))) .nil))) (.call "_law_same" (.cons false (.ix (.loc 0) (.lit (.int 1))) (.cons false (.ix (.loc 1) (.lit (.int 1))) .nil)))))
    .nil)⟩
def r__law_same_pair : IL.Row := ⟨"_law_same_pair", top 60, ["_law_pair_here", "_law_due"], ["_law_pair_here", "_law_due"], f__law_same_pair, none⟩
def f__law_model : IL.Fn := ⟨3, 4, false,
    (.cons (.iff (.cmp .eq (.ix (.loc 2) (.lit (.int 0))) (.lit (.str "yes"))) (.cons (.ret (.tup (.cons false (.tup (.cons false (.lit (.int 1)) (.cons false (.lit (.int 1)) .nil))) (.cons false (.tup (.cons false (.lit (.int 1)) (.cons false (.lit (.int 1)) .nil))) .nil))))
    .nil) .nil)
    (.cons (.iff (.cmp .eq (.ix (.loc 2) (.lit (.int 0))) (.lit (.str "no"))) (.cons (.ret (.tup (.cons false (.tup (.cons false (.lit (.int 0)) (.cons false (.lit (.int 1)) .nil))) (.cons false (.tup (.cons false (.lit (.int 0)) (.cons false (.lit (.int 1)) .nil))) .nil))))
    .nil) .nil)
    (.cons (.iff (.cmp .eq (.ix (.loc 2) (.lit (.int 0))) (.lit (.str "is"))) (.cons (.ret (.ix (.loc 1) (.mth .index (.loc 0) (.cons false (.ix (.loc 2) (.lit (.int 1))) .nil))))
    .nil) .nil)
    (.cons (.set 3 (.call "_law_model" (.cons false (.loc 0) (.cons false (.loc 1) (.cons false (.ix (.loc 2) (.lit (.int 1))) .nil)))))
    (.cons (.iff (.cmp .eq (.ix (.loc 2) (.lit (.int 0))) (.lit (.str "not"))) (.cons (.ret (.call "_law_not_pair" (.cons false (.loc 3) .nil)))
    .nil) .nil)
    (.cons (.iff (.cmp .eq (.ix (.loc 2) (.lit (.int 0))) (.lit (.str "and"))) (.cons (.ret (.call "_law_and_pair" (.cons false (.loc 3) (.cons false (.call "_law_model" (.cons false (.loc 0) (.cons false (.loc 1) (.cons false (.ix (.loc 2) (.lit (.int 2))) .nil)))) .nil))))
    .nil) .nil)
    (.cons (.ret (.call "_law_or_pair" (.cons false (.loc 3) (.cons false (.call "_law_model" (.cons false (.loc 0) (.cons false (.loc 1) (.cons false (.ix (.loc 2) (.lit (.int 2))) .nil)))) .nil))))
    .nil)))))))⟩
def r__law_model : IL.Row := ⟨"_law_model", top 61, ["_law_names_here", "_law_spans", "_law_formula"], ["_law_names_here", "_law_spans", "_law_formula", "_law_first"], f__law_model, none⟩
def f_law : IL.Fn := ⟨1, 8, false,
    (.cons (.set 1 (.call "_law_pool" (.cons false (.loc 0) .nil)))
    (.cons (.set 2 (.bin .add (.lit (.int 1)) (.cio "_law_draw" 1 (.cons false (.lit (.int 30)) .nil))))
    (.cons (.set 3 (.cio "_law_names" 1 (.cons false (.lit (.int 4)) .nil)))
    (.cons (.set 4 (.blt .tuple (.cons false (.lc [7] (.nm 7) (.seq (.loc 3)) .no (.cio "_law_wide_span" 1 .nil)) .nil)))
    (.cons (.set 5 (.cio "_law_tree" 1 (.cons false (.loc 3) (.cons false (.loc 2) (.cons false (.lit (.int 12)) .nil)))))
    (.cons (.set 6 (.call "plain" (.cons false (.loc 3) (.cons false (.loc 4) (.cons false (.loc 5) .nil)))))
    (.cons (.ret (.and (.call "_law_pair" (.cons false (.loc 6) .nil)) (.call "_law_same_pair" (.cons false (.loc 6) (.cons false (.call "_law_model" (.cons false (.loc 3) (.cons false (.loc 4) (.cons false (.loc 5) .nil)))) .nil)))))
    .nil)))))))⟩
def r_law : IL.Row := ⟨"law", top 62, ["_law_script"], ["_law_script", "_law_pool_here", "_law_room", "_law_names_here", "_law_spans", "_law_formula", "_law_told", "_law_name"], f_law, none⟩
def rows0 : List IL.Row := [r_gcd_of, r_is_integer, r_is_fraction, r_ratio, r_add_up, r_take_off, r_is_below, r_is_name, r_is_number, r_check_names, r_count_nodes, r_is_formula, r_check_formula, r_are_ends, r_lesser, r_greater, r_is_span, r_check_spans, r_both_plain, r_either_plain]
def rows1 : List IL.Row := [r_pair_of, r_plain, r__law_table, r__law_pool, r__law_draw, r__law_names, r__law_leaf, r__law_plus, r__law_below, r__law_same, r__law_gcd, r__law_lowest, r__law_integer, r__law_fraction, r__law_tree, r__law_wide_span, r__law_less_of, r__law_more_of, r__law_and_pair, r__law_or_pair]
def rows2 : List IL.Row := [r__law_not_pair, r__law_pair, r__law_same_pair, r__law_model, r_law]
def rows : List IL.Row := rows0 ++ rows1 ++ rows2
def errs : List Str := ["InvalidNames", "InvalidFormula", "InvalidSpans"]
def e_InvalidNames : IL.ERow := ⟨"InvalidNames", topM 2 0⟩
def e_InvalidSpans : IL.ERow := ⟨"InvalidSpans", topM 4 0⟩
def eros : List IL.ERow := [e_InvalidNames, e_InvalidSpans]
theorem eros_ok : ∀ r ∈ eros, ESh r := by
  simp only [eros, List.forall_mem_cons]
  exact ⟨⟨.at_, _, _, _, _, _, _, rfl, rfl, rfl, rfl⟩, ⟨.at_, _, _, _, _, _, _, rfl, rfl, rfl, rfl⟩, fun _ h => nomatch h⟩
theorem errs_ok : ∀ c ∈ errs, fldOf c = none ∨ c ∈ eros.map (·.c) := by decide +kernel
def glos : List (Str × D) := [("ZERO", .tup [.int 0, .int 1]), ("ONE", .tup [.int 1, .int 1]), ("LETTERS", .str "abcdefghijklmnopqrstuvwxyz"), ("RESERVED", .tup [.str "and", .str "or", .str "not", .str "yes", .str "no", .str "is", .str "given", .str "nomore", .str "from", .str "to"]), ("MOST_NAMES", .int 4), ("MOST_NODES", .int 30), ("MOST_DEPTH", .int 12), ("BIGGEST", .int 1000000000000000000000000000000000000000000000000000000000000)]
theorem b_gcd_of : BindP r_gcd_of := fun _ _ _ _ _ _ us hl => match us, hl with | [_, _], _ => rfl
theorem b_is_integer : BindP r_is_integer := fun _ _ _ _ _ _ us hl => match us, hl with | [_], _ => rfl
theorem b_is_fraction : BindP r_is_fraction := fun _ _ _ _ _ _ us hl => match us, hl with | [_], _ => rfl
theorem b_ratio : BindP r_ratio := fun _ _ _ _ _ _ us hl => match us, hl with | [_, _], _ => rfl
theorem b_add_up : BindP r_add_up := fun _ _ _ _ _ _ us hl => match us, hl with | [_, _], _ => rfl
theorem b_take_off : BindP r_take_off := fun _ _ _ _ _ _ us hl => match us, hl with | [_, _], _ => rfl
theorem b_is_below : BindP r_is_below := fun _ _ _ _ _ _ us hl => match us, hl with | [_, _], _ => rfl
theorem b_is_name : BindP r_is_name := fun _ _ _ _ _ _ us hl => match us, hl with | [_], _ => rfl
theorem b_is_number : BindP r_is_number := fun _ _ _ _ _ _ us hl => match us, hl with | [_], _ => rfl
theorem b_check_names : BindP r_check_names := fun _ _ _ _ _ _ us hl => match us, hl with | [_], _ => rfl
theorem b_count_nodes : BindP r_count_nodes := fun _ _ _ _ _ _ us hl => match us, hl with | [_, _, _], _ => rfl
theorem b_is_formula : BindP r_is_formula := fun _ _ _ _ _ _ us hl => match us, hl with | [_, _], _ => rfl
theorem b_check_formula : BindP r_check_formula := fun _ _ _ _ _ _ us hl => match us, hl with | [_, _], _ => rfl
theorem b_are_ends : BindP r_are_ends := fun _ _ _ _ _ _ us hl => match us, hl with | [_, _], _ => rfl
theorem b_lesser : BindP r_lesser := fun _ _ _ _ _ _ us hl => match us, hl with | [_, _], _ => rfl
theorem b_greater : BindP r_greater := fun _ _ _ _ _ _ us hl => match us, hl with | [_, _], _ => rfl
theorem b_is_span : BindP r_is_span := fun _ _ _ _ _ _ us hl => match us, hl with | [_], _ => rfl
theorem b_check_spans : BindP r_check_spans := fun _ _ _ _ _ _ us hl => match us, hl with | [_, _], _ => rfl
theorem b_both_plain : BindP r_both_plain := fun _ _ _ _ _ _ us hl => match us, hl with | [_, _], _ => rfl
theorem b_either_plain : BindP r_either_plain := fun _ _ _ _ _ _ us hl => match us, hl with | [_, _], _ => rfl
theorem b_pair_of : BindP r_pair_of := fun _ _ _ _ _ _ us hl => match us, hl with | [_, _], _ => rfl
theorem b_plain : BindP r_plain := fun _ _ _ _ _ _ us hl => match us, hl with | [_, _, _], _ => rfl
theorem b__law_table : BindP r__law_table := fun _ _ _ _ _ _ us hl => match us, hl with | [], _ => rfl
theorem b__law_pool : BindP r__law_pool := fun _ _ _ _ _ _ us hl => match us, hl with | [_], _ => rfl
theorem b__law_draw : BindP r__law_draw := fun _ _ _ _ _ _ us hl => match us, hl with | [_, _], _ => rfl
theorem b__law_names : BindP r__law_names := fun _ _ _ _ _ _ us hl => match us, hl with | [_, _], _ => rfl
theorem b__law_leaf : BindP r__law_leaf := fun _ _ _ _ _ _ us hl => match us, hl with | [_, _], _ => rfl
theorem b__law_plus : BindP r__law_plus := fun _ _ _ _ _ _ us hl => match us, hl with | [_, _], _ => rfl
theorem b__law_below : BindP r__law_below := fun _ _ _ _ _ _ us hl => match us, hl with | [_, _], _ => rfl
theorem b__law_same : BindP r__law_same := fun _ _ _ _ _ _ us hl => match us, hl with | [_, _], _ => rfl
theorem b__law_gcd : BindP r__law_gcd := fun _ _ _ _ _ _ us hl => match us, hl with | [_, _], _ => rfl
theorem b__law_lowest : BindP r__law_lowest := fun _ _ _ _ _ _ us hl => match us, hl with | [_, _], _ => rfl
theorem b__law_integer : BindP r__law_integer := fun _ _ _ _ _ _ us hl => match us, hl with | [_], _ => rfl
theorem b__law_fraction : BindP r__law_fraction := fun _ _ _ _ _ _ us hl => match us, hl with | [_], _ => rfl
theorem b__law_tree : BindP r__law_tree := fun _ _ _ _ _ _ us hl => match us, hl with | [_, _, _, _], _ => rfl
theorem b__law_wide_span : BindP r__law_wide_span := fun _ _ _ _ _ _ us hl => match us, hl with | [_], _ => rfl
theorem b__law_less_of : BindP r__law_less_of := fun _ _ _ _ _ _ us hl => match us, hl with | [_, _], _ => rfl
theorem b__law_more_of : BindP r__law_more_of := fun _ _ _ _ _ _ us hl => match us, hl with | [_, _], _ => rfl
theorem b__law_and_pair : BindP r__law_and_pair := fun _ _ _ _ _ _ us hl => match us, hl with | [_, _], _ => rfl
theorem b__law_or_pair : BindP r__law_or_pair := fun _ _ _ _ _ _ us hl => match us, hl with | [_, _], _ => rfl
theorem b__law_not_pair : BindP r__law_not_pair := fun _ _ _ _ _ _ us hl => match us, hl with | [_], _ => rfl
theorem b__law_pair : BindP r__law_pair := fun _ _ _ _ _ _ us hl => match us, hl with | [_], _ => rfl
theorem b__law_same_pair : BindP r__law_same_pair := fun _ _ _ _ _ _ us hl => match us, hl with | [_, _], _ => rfl
theorem b__law_model : BindP r__law_model := fun _ _ _ _ _ _ us hl => match us, hl with | [_, _, _], _ => rfl
theorem b_law : BindP r_law := fun _ _ _ _ _ _ us hl => match us, hl with | [_], _ => rfl
def names0 : List PySem.Str := ["ChanceError", "InvalidNames", "InvalidFormula", "InvalidSpans", "ZERO", "ONE", "gcd_of", "is_integer", "is_fraction", "ratio", "add_up", "take_off", "is_below", "LETTERS", "RESERVED", "MOST_NAMES", "MOST_NODES", "MOST_DEPTH", "BIGGEST", "is_name", "is_number", "check_names", "count_nodes", "is_formula", "check_formula", "are_ends", "lesser", "greater", "is_span", "check_spans"]
def names1 : List PySem.Str := ["both_plain", "either_plain", "pair_of", "plain", "_law_table", "_law_pool", "_law_draw", "_law_names", "_law_leaf", "_law_plus", "_law_below", "_law_same", "_law_gcd", "_law_lowest", "_law_integer", "_law_fraction", "_law_tree", "_law_wide_span", "_law_less_of", "_law_more_of", "_law_and_pair", "_law_or_pair", "_law_not_pair", "_law_pair", "_law_same_pair", "_law_model"]
def names : List PySem.Str := names0 ++ names1
theorem rows_ok : rowsOk errs (glos.map (·.1)) rows = true := by decide +kernel
abbrev RR : PySem.W.OpenRow := PySem.W.OpenLaw.row PySem.Challenge.rw_chanceends_k75_plain_rules
theorem run (w : World) : HandSHeadRun.RunEq RR (PySem.W.view RR.prog [62]) (hookL 4 rows errs eros glos) (obL 4 rows errs eros glos) 30000 names w := by
  intro os
  kernel_rfl
theorem binds : ∀ r ∈ rows, BindP r := by
  simp only [rows, rows0, rows1, rows2, List.forall_mem_append, List.forall_mem_cons]
  exact ⟨⟨⟨b_gcd_of, b_is_integer, b_is_fraction, b_ratio, b_add_up, b_take_off, b_is_below, b_is_name, b_is_number, b_check_names, b_count_nodes, b_is_formula, b_check_formula, b_are_ends, b_lesser, b_greater, b_is_span, b_check_spans, b_both_plain, b_either_plain, fun _ h => nomatch h⟩, ⟨b_pair_of, b_plain, b__law_table, b__law_pool, b__law_draw, b__law_names, b__law_leaf, b__law_plus, b__law_below, b__law_same, b__law_gcd, b__law_lowest, b__law_integer, b__law_fraction, b__law_tree, b__law_wide_span, b__law_less_of, b__law_more_of, b__law_and_pair, b__law_or_pair, fun _ h => nomatch h⟩⟩, ⟨b__law_not_pair, b__law_pair, b__law_same_pair, b__law_model, b_law, fun _ h => nomatch h⟩⟩
end Lw
open PySem PySem.W PySem.Calls PyProof.Rows
theorem Lw.holds_any (gl : PySem.Str → Option IL.D) (T : PySem.Str → Option IL.Fn) (hg : ∀ p ∈ Lw.glos, gl p.1 = some p.2) (hT : ∀ r ∈ Lw.rows, T r.x = some r.fn) (n : Nat) (hn : n ≤ 110) (val : ∀ ns : List Int, ns.length ≤ 63 → ∃ fr io, IL.callN gl T (n + 1) ("law" : PySem.Str) .un [.lst (ns.map IL.D.int)] = .ret (.bl true) fr io) : PySem.Challenge.rw_chanceends_k75_plain_rules.Holds := by
  w_on; o_law
  refine HandSHeadRun.head_any (r := OpenLaw.row PySem.Challenge.rw_chanceends_k75_plain_rules) (q := view (OpenLaw.row PySem.Challenge.rw_chanceends_k75_plain_rules).prog [62]) (H := IL.hookL 4 Lw.rows Lw.errs Lw.eros Lw.glos) (ob := IL.obL 4 Lw.rows Lw.errs Lw.eros Lw.glos) (M := 30000) (loose := Lw.names) (d := HandSHeadRun.topDef (OpenLaw.row PySem.Challenge.rw_chanceends_k75_plain_rules).prog 62) (kwd := []) IL.obL_eq
    (by kernel_rfl) (fun s => by kernel_rfl) Lw.run (by kernel_rfl) (by kernel_rfl) (by kernel_rfl) (by rfl) (by first | assumption | decide +kernel) (by decide +kernel) ⟨rfl, rfl, rfl, rfl, rfl, by decide +kernel⟩ ?hw ?hc
  case hw => w_witness2
  case hc =>
    refine L2.walk_ofE (l := PySem.Challenge.rw_chanceends_k75_plain_rules) (n := 63) (k := 2 * (n + 1)) (x := "_law_script") (CX := IL.CXe) rfl (by decide) (by kernel_rfl) (IL.room_callerA hn) ?F IL.hCX
    intro w mg fa h Y G hmg0
    obtain ⟨K, KX, c⟩ := Y
    have hmg : mg ("law" : PySem.Str) = some (.ref fa) := by
      have e : (HandSHeadRun.topDef (OpenLaw.row PySem.Challenge.rw_chanceends_k75_plain_rules).prog 62).name = ("law" : PySem.Str) := by kernel_rfl
      rw [← e]
      exact hmg0
    exact IL.law_facts (P := (PySem.Challenge.rw_chanceends_k75_plain_rules).prog) (wd := w) (lw := Lw.r_law) (x := "_law_script") (most := 63) KX G c Lw.eros_ok Lw.errs_ok hmg Lw.rows_ok hg hT Lw.binds (by unfold Lw.rows; exact (List.mem_append_right _ (by simp [Lw.rows2]))) rfl rfl rfl rfl (by decide) val
end
section
set_option maxHeartbeats 1000000
namespace IL
open PySem
def fn_gcd_of : Fn := ⟨2, 2, false,
    (.cons (.whil (.cmp .ne (.loc 1) (.lit (.int 0))) (.cons (.par 0 1 (.loc 1) (.bin .mod (.loc 0) (.loc 1)))
    .nil))
    (.cons (.ret (.blt .abs (.cons false (.loc 0) .nil)))
    .nil))⟩
def fn_lcm_of : Fn := ⟨2, 2, false,
    (.cons (.ret (.bin .mul (.bin .fdiv (.loc 0) (.call "gcd_of" (.cons false (.loc 0) (.cons false (.loc 1) .nil)))) (.loc 1)))
    .nil)⟩
def fn_is_integer : Fn := ⟨1, 1, false,
    (.cons (.ret (.and (.isi (.loc 0) [.int]) (.not (.isi (.loc 0) [.bool]))))
    .nil)⟩
def fn_is_fraction : Fn := ⟨1, 1, false,
    (.cons (.iff (.or (.not (.isi (.loc 0) [.tuple])) (.cmp .ne (.blt .len (.cons false (.loc 0) .nil)) (.lit (.int 2)))) (.cons (.ret (.lit (.bl false)))
    .nil) .nil)
    (.cons (.iff (.or (.not (.call "is_integer" (.cons false (.ix (.loc 0) (.lit (.int 0))) .nil))) (.or (.not (.call "is_integer" (.cons false (.ix (.loc 0) (.lit (.int 1))) .nil))) (.cmp .lt (.ix (.loc 0) (.lit (.int 1))) (.lit (.int 1))))) (.cons (.ret (.lit (.bl false)))
    .nil) .nil)
    (.cons (.ret (.cmp .eq (.call "gcd_of" (.cons false (.ix (.loc 0) (.lit (.int 0))) (.cons false (.ix (.loc 0) (.lit (.int 1))) .nil))) (.lit (.int 1))))
    .nil)))⟩
def fn_ratio : Fn := ⟨2, 3, false,
    (.cons (.set 2 (.call "gcd_of" (.cons false (.loc 0) (.cons false (.loc 1) .nil))))
    (.cons (.iff (.cmp .lt (.loc 1) (.lit (.int 0))) (.cons (.set 2 (.neg (.loc 2)))
    .nil) .nil)
    (.cons (.ret (.tup (.cons false (.bin .fdiv (.loc 0) (.loc 2)) (.cons false (.bin .fdiv (.loc 1) (.loc 2)) .nil))))
    .nil)))⟩
def fn_add_up : Fn := ⟨2, 2, false,
    (.cons (.ret (.call "ratio" (.cons false (.bin .add (.bin .mul (.ix (.loc 0) (.lit (.int 0))) (.ix (.loc 1) (.lit (.int 1)))) (.bin .mul (.ix (.loc 1) (.lit (.int 0))) (.ix (.loc 0) (.lit (.int 1))))) (.cons false (.bin .mul (.ix (.loc 0) (.lit (.int 1))) (.ix (.loc 1) (.lit (.int 1)))) .nil))))
    .nil)⟩
def fn_take_off : Fn := ⟨2, 2, false,
    (.cons (.ret (.call "ratio" (.cons false (.bin .sub (.bin .mul (.ix (.loc 0) (.lit (.int 0))) (.ix (.loc 1) (.lit (.int 1)))) (.bin .mul (.ix (.loc 1) (.lit (.int 0))) (.ix (.loc 0) (.lit (.int 1))))) (.cons false (.bin .mul (.ix (.loc 0) (.lit (.int 1))) (.ix (.loc 1) (.lit (.int 1)))) .nil))))
    .nil)⟩
def fn_multiply : Fn := ⟨2, 2, false,
    (.cons (.ret (.call "ratio" (.cons false (.bin .mul (.ix (.loc 0) (.lit (.int 0))) (.ix (.loc 1) (.lit (.int 0)))) (.cons false (.bin .mul (.ix (.loc 0) (.lit (.int 1))) (.ix (.loc 1) (.lit (.int 1)))) .nil))))
    .nil)⟩
def fn_divide : Fn := ⟨2, 2, false,
    (.cons (.ret (.call "ratio" (.cons false (.bin .mul (.ix (.loc 0) (.lit (.int 0))) (.ix (.loc 1) (.lit (.int 1)))) (.cons false (.bin .mul (.ix (.loc 0) (.lit (.int 1))) (.ix (.loc 1) (.lit (.int 0)))) .nil))))
    .nil)⟩
def fn_negate : Fn := ⟨1, 1, false,
    (.cons (.ret (.tup (.cons false (.neg (.ix (.loc 0) (.lit (.int 0)))) (.cons false (.ix (.loc 0) (.lit (.int 1))) .nil))))
    .nil)⟩
def fn_is_below : Fn := ⟨2, 2, false,
    (.cons (.ret (.cmp .lt (.bin .mul (.ix (.loc 0) (.lit (.int 0))) (.ix (.loc 1) (.lit (.int 1)))) (.bin .mul (.ix (.loc 1) (.lit (.int 0))) (.ix (.loc 0) (.lit (.int 1))))))
    .nil)⟩
def fn_sum_up : Fn := ⟨1, 3, false,
    (.cons (.set 1 (.glo "ZERO"))
    (.cons (.forr (.nm 2) (.seq (.loc 0)) (.cons (.set 1 (.call "add_up" (.cons false (.loc 1) (.cons false (.loc 2) .nil))))
    .nil))
    (.cons (.ret (.loc 1))
    .nil)))⟩
def fn_dot : Fn := ⟨2, 4, false,
    (.cons (.ret (.call "sum_up" (.cons false (.lc [2, 3] (.cons (.nm 2) (.cons (.nm 3) .nil)) (.zip (.seq (.loc 0)) (.seq (.loc 1))) .no (.call "multiply" (.cons false (.loc 2) (.cons false (.loc 3) .nil)))) .nil)))
    .nil)⟩
def fn_least_of : Fn := ⟨1, 3, false,
    (.cons (.set 1 (.ix (.loc 0) (.lit (.int 0))))
    (.cons (.forr (.nm 2) (.seq (.loc 0)) (.cons (.iff (.call "is_below" (.cons false (.loc 2) (.cons false (.loc 1) .nil))) (.cons (.set 1 (.loc 2))
    .nil) .nil)
    .nil))
    (.cons (.ret (.loc 1))
    .nil)))⟩
def fn_is_between : Fn := ⟨3, 3, false,
    (.cons (.ret (.and (.not (.call "is_below" (.cons false (.loc 0) (.cons false (.loc 1) .nil)))) (.not (.call "is_below" (.cons false (.loc 2) (.cons false (.loc 0) .nil))))))
    .nil)⟩
def fn_check_fraction : Fn := ⟨1, 1, false,
    (.cons (.iff (.not (.call "is_fraction" (.cons false (.loc 0) .nil))) (.cons (.rais "InvalidNumber" .no)
    .nil) .nil)
    .nil)⟩
def fn_check_both : Fn := ⟨2, 2, false,
    (.cons (.ex (.call "check_fraction" (.cons false (.loc 0) .nil)))
    (.cons (.ex (.call "check_fraction" (.cons false (.loc 1) .nil)))
    .nil))⟩
def fn_lowest : Fn := ⟨2, 2, false,
    (.cons (.iff (.or (.not (.call "is_integer" (.cons false (.loc 0) .nil))) (.or (.not (.call "is_integer" (.cons false (.loc 1) .nil))) (.cmp .eq (.loc 1) (.lit (.int 0))))) (.cons (.rais "InvalidNumber" .no)
    .nil) .nil)
    (.cons (.ret (.call "ratio" (.cons false (.loc 0) (.cons false (.loc 1) .nil))))
    .nil))⟩
def fn_plus : Fn := ⟨2, 2, false,
    (.cons (.ex (.call "check_both" (.cons false (.loc 0) (.cons false (.loc 1) .nil))))
    (.cons (.ret (.call "add_up" (.cons false (.loc 0) (.cons false (.loc 1) .nil))))
    .nil))⟩
def fn_minus : Fn := ⟨2, 2, false,
    (.cons (.ex (.call "check_both" (.cons false (.loc 0) (.cons false (.loc 1) .nil))))
    (.cons (.ret (.call "take_off" (.cons false (.loc 0) (.cons false (.loc 1) .nil))))
    .nil))⟩
def fn_times : Fn := ⟨2, 2, false,
    (.cons (.ex (.call "check_both" (.cons false (.loc 0) (.cons false (.loc 1) .nil))))
    (.cons (.ret (.call "multiply" (.cons false (.loc 0) (.cons false (.loc 1) .nil))))
    .nil))⟩
def fn_compare : Fn := ⟨2, 2, false,
    (.cons (.ex (.call "check_both" (.cons false (.loc 0) (.cons false (.loc 1) .nil))))
    (.cons (.iff (.call "is_below" (.cons false (.loc 0) (.cons false (.loc 1) .nil))) (.cons (.ret (.neg (.lit (.int 1))))
    .nil) .nil)
    (.cons (.ret (.blt .int (.cons false (.call "is_below" (.cons false (.loc 1) (.cons false (.loc 0) .nil))) .nil)))
    .nil)))⟩
def g_ZERO : D := .tup [.int 0, .int 1]
def g_ONE : D := .tup [.int 1, .int 1]
def tabRat : List (Str × Fn) := [("gcd_of", fn_gcd_of), ("lcm_of", fn_lcm_of), ("is_integer", fn_is_integer), ("is_fraction", fn_is_fraction), ("ratio", fn_ratio), ("add_up", fn_add_up), ("take_off", fn_take_off), ("multiply", fn_multiply), ("divide", fn_divide), ("negate", fn_negate), ("is_below", fn_is_below), ("sum_up", fn_sum_up), ("dot", fn_dot), ("least_of", fn_least_of), ("is_between", fn_is_between), ("check_fraction", fn_check_fraction), ("check_both", fn_check_both), ("lowest", fn_lowest), ("plus", fn_plus), ("minus", fn_minus), ("times", fn_times), ("compare", fn_compare)]
def gloRat : List (Str × D) := [("ZERO", g_ZERO), ("ONE", g_ONE)]
class LibRat (gl : Str → Option D) (T : Str → Option Fn) : Prop where
  e_gcd_of : T "gcd_of" = some fn_gcd_of
  e_lcm_of : T "lcm_of" = some fn_lcm_of
  e_is_integer : T "is_integer" = some fn_is_integer
  e_is_fraction : T "is_fraction" = some fn_is_fraction
  e_ratio : T "ratio" = some fn_ratio
  e_add_up : T "add_up" = some fn_add_up
  e_take_off : T "take_off" = some fn_take_off
  e_multiply : T "multiply" = some fn_multiply
  e_divide : T "divide" = some fn_divide
  e_negate : T "negate" = some fn_negate
  e_is_below : T "is_below" = some fn_is_below
  e_sum_up : T "sum_up" = some fn_sum_up
  e_dot : T "dot" = some fn_dot
  e_least_of : T "least_of" = some fn_least_of
  e_is_between : T "is_between" = some fn_is_between
  e_check_fraction : T "check_fraction" = some fn_check_fraction
  e_check_both : T "check_both" = some fn_check_both
  e_lowest : T "lowest" = some fn_lowest
  e_plus : T "plus" = some fn_plus
  e_minus : T "minus" = some fn_minus
  e_times : T "times" = some fn_times
  e_compare : T "compare" = some fn_compare
  e_ZERO : gl "ZERO" = some g_ZERO
  e_ONE : gl "ONE" = some g_ONE
def qD (q : Rat) : D := .tup [.int q.num, .int q.den]
section
variable {gl : Str → Option D} {T : Str → Option Fn}
def isInt : D → Bool
  | .int _ => true | _ => false
theorem fmod_abs {a b : Int} (h : b ≠ 0) : (a.fmod b).natAbs < b.natAbs := by
  rw [Int.fmod_eq_emod]
  have h1 := Int.emod_nonneg a h
  have h2 := Int.emod_lt a h
  split
  · omega
  · rename_i hn
    have h3 : a % b ≠ 0 := fun e => hn (.inr (Int.dvd_of_emod_eq_zero e))
    omega
theorem gcd_fmod (a b : Int) : Int.gcd b (a.fmod b) = Int.gcd a b := by
  have h : a.fmod b = a + b * (-(a.fdiv b)) := by
    have := Int.mul_fdiv_add_fmod a b
    rw [Int.mul_neg]; omega
  rw [h, Int.gcd_add_mul_left_right, Int.gcd_comm]
theorem run_gcd_of [Lr : LibRat gl T] {n : Nat} (hn : 1 ≤ n) (a b : Int) : callN gl T n "gcd_of" .un [.int a, .int b] = .ret (.int (Int.gcd a b)) false .un := by
  refine c_eq (c_run Lr.e_gcd_of hn rfl rfl ?_)
  show wS (evMs gl _ _ [.sh (.int a), .sh (.int b)]) _
  refine s_cons ?_
  rw [rS_whil]
  refine s_while (fun m s => ∃ x y : Int, s = [.sh (.int x), .sh (.int y)] ∧ y.natAbs = m ∧ Int.gcd x y = Int.gcd a b) ?_ b.natAbs _ ⟨a, b, rfl, rfl, rfl⟩
  rintro m s ⟨x, y, rfl, rfl, hg⟩
  by_cases hy : y = 0
  · subst hy
    simp -implicitDefEqProofs [rd, readS, takeS, readF, takeF, two, late, lateO, setS, hasS, hasL, lenOk, Ex.noio, Exs.noio, Oex.noio, retE, wipeS, backS]
    have : (if x < 0 then -x else x) = (Int.gcd a b : Int) := by rw [← hg]; simp; omega
    exact this
  · simp -implicitDefEqProofs [rd, readS, takeS, readF, takeF, two, late, lateO, setS, hasS, hasL, lenOk, Ex.noio, Exs.noio, Oex.noio, retE, wipeS, backS, hy]
    exact ⟨_, fmod_abs (a := x) hy, _, _, ⟨rfl, rfl⟩, rfl, by rw [gcd_fmod]; exact hg⟩
theorem run_is_integer [Lr : LibRat gl T] {n : Nat} (hn : 1 ≤ n) (d : D) : callN gl T n "is_integer" .un [d] = .ret (.bl (isInt d)) false .un := by
  refine c_eq (c_run Lr.e_is_integer hn rfl rfl ?_)
  refine s_cons ?_
  cases d <;> simp -implicitDefEqProofs [fn_is_integer, rd, readS, takeS, readF, takeF, two, late, lateO, setS, hasS, hasL, lenOk, Ex.noio, Exs.noio, Oex.noio, retE, wipeS, backS, isTys, isTy, isInt]
/-- an integer by which no division is slow -/
def Lo (i : Int) : Prop := i.natAbs < 2 ^ 9000
theorem Lo.log {i : Int} (h : Lo i) : i.natAbs.log2 < 9000 := by
  by_cases h0 : i.natAbs = 0
  · rw [h0]; decide
  · rw [Nat.log2_lt h0]; exact h
theorem noPy {a b : Int} (h : Lo b) : Builtin.divisionGoesByPylong a b = false := PyProof.noPylong_of_log2 h.log
theorem Lo.div {i j : Int} (hj : Lo j) (h0 : j ≠ 0) : divOk i j = true := by
  unfold divOk
  rw [noPy hj]; simp [h0]
theorem Lo.le {i j : Int} (hi : Lo i) (h : j.natAbs ≤ i.natAbs) : Lo j := Nat.lt_of_le_of_lt h hi
/-- integers whose product is not too long -/
def Mo (i : Int) : Prop := i.natAbs < 2 ^ 400000
theorem Mo.log {i : Int} (h : Mo i) : i.natAbs.log2 < 400000 := by
  by_cases h0 : i.natAbs = 0
  · rw [h0]; decide
  · rw [Nat.log2_lt h0]; exact h
theorem Mo.mul {i j : Int} (hi : Mo i) (hj : Mo j) : mulOk i j = true := by
  have h1 := hi.log
  have h2 := hj.log
  unfold mulOk
  rw [show decide (i.natAbs.log2 + j.natAbs.log2 < 1000000) = true from decide_eq_true (by omega)]
  simp
theorem Lo.mo {i : Int} (h : Lo i) : Mo i := Nat.lt_of_lt_of_le h (Nat.pow_le_pow_right (by decide) (by decide))
/-- the divisor that ratio takes -/
def rg (a b : Int) : Int := if b < 0 then -(Int.gcd a b : Int) else Int.gcd a b
theorem gcd_pos' {a b : Int} (hb : b ≠ 0) : 0 < Int.gcd a b := Nat.pos_of_ne_zero fun h => hb (Int.gcd_eq_zero_iff.mp h).2
theorem rg_ne {a b : Int} (hb : b ≠ 0) : rg a b ≠ 0 := by
  have := gcd_pos' (a := a) hb
  unfold rg; split <;> omega
theorem gcd_le' {a b : Int} (hb : b ≠ 0) : Int.gcd a b ≤ b.natAbs := Nat.le_of_dvd (by omega) (Int.gcd_dvd_natAbs_right a b)
theorem rg_lo {a b : Int} (hb : b ≠ 0) (h : Lo b) : Lo (rg a b) := by
  have h1 := gcd_le' (a := a) hb
  exact h.le (by unfold rg; split <;> omega)
theorem rg_num {a b : Int} (hb : b ≠ 0) : a.fdiv (rg a b) = (Rat.divInt a b).num := by
  rw [Rat.num_divInt, Int.gcd_comm b a]
  have hg := gcd_pos' (a := a) hb
  obtain ⟨u, hu⟩ := Int.gcd_dvd_left a b
  have hz : ((Int.gcd a b : Nat) : Int) ≠ 0 := by omega
  unfold rg
  generalize Int.gcd a b = g at *
  subst hu
  by_cases hn : b < 0
  · rw [if_pos hn, Int.sign_eq_neg_one_of_neg hn]
    have e1 : (g : Int) * u = -(g : Int) * -u := by rw [Int.neg_mul_neg]
    rw [e1, Int.mul_fdiv_cancel_left _ (by omega), ← e1]
    have e2 : -1 * ((g : Int) * u) = (g : Int) * -u := by rw [Int.mul_neg]; omega
    rw [e2, Int.mul_ediv_cancel_left _ hz]
  · rw [if_neg hn, Int.sign_eq_one_of_pos (by omega), Int.mul_fdiv_cancel_left _ hz, Int.one_mul, Int.mul_ediv_cancel_left _ hz]
theorem rg_den {a b : Int} (hb : b ≠ 0) : b.fdiv (rg a b) = ((Rat.divInt a b).den : Int) := by
  rw [Rat.den_divInt, if_neg hb, Int.gcd_comm b a]
  have hg := gcd_pos' (a := a) hb
  obtain ⟨u, hu⟩ := Int.gcd_dvd_right a b
  have hz : ((Int.gcd a b : Nat) : Int) ≠ 0 := by omega
  unfold rg
  generalize Int.gcd a b = g at *
  have hab : (b.natAbs : Int) = (g : Int) * (u.natAbs : Int) := by rw [hu, Int.natAbs_mul]; simp
  have hdiv : ((b.natAbs / g : Nat) : Int) = (u.natAbs : Int) := by
    rw [Int.natCast_ediv, hab, Int.mul_ediv_cancel_left _ hz]
  rw [hdiv]
  by_cases hn : b < 0
  · rw [if_pos hn]
    have e1 : b = -(g : Int) * -u := by rw [Int.neg_mul_neg]; exact hu
    rw [e1, Int.mul_fdiv_cancel_left _ (by omega)]
    have : u < 0 := by
      rcases Int.lt_or_le u 0 with h | h
      · exact h
      · have := Int.mul_nonneg (show (0 : Int) ≤ g by omega) h
        omega
    omega
  · rw [if_neg hn, hu, Int.mul_fdiv_cancel_left _ hz]
    have : 0 ≤ u := by
      rcases Int.lt_or_le u 0 with h | h
      · have h2 := Int.mul_nonneg (show (0 : Int) ≤ g by omega) (show 0 ≤ -u by omega)
        rw [Int.mul_neg] at h2
        omega
      · exact h
    omega
theorem lim2 : 2 ≤ limN := by decide
theorem run_ratio [Lr : LibRat gl T] {n : Nat} (hn : 2 ≤ n) {a b : Int} (hb : b ≠ 0) (sb : Lo b) : callN gl T n "ratio" .un [.int a, .int b] = .ret (qD (Rat.divInt a b)) false .un := by
  refine c_eq (c_run Lr.e_ratio (by omega) rfl rfl ?_)
  have hg := run_gcd_of (gl := gl) (T := T) (n := n - 1) (by omega) a b
  have h1 := (rg_lo (a := a) hb sb).div (i := a) (rg_ne hb)
  have h2 := (rg_lo (a := a) hb sb).div (i := b) (rg_ne hb)
  have e1 := rg_num (a := a) hb
  have e2 := rg_den (a := a) hb
  generalize callN gl T (n - 1) = C at hg
  by_cases hn : b < 0
  · rw [show rg a b = -(Int.gcd a b : Int) from if_pos hn] at *
    simp -implicitDefEqProofs [fn_ratio, rd, readS, takeS, readF, takeF, two, late, lateO, setS, hasS, hasL, lenOk, Ex.noio, Exs.noio, Oex.noio, retE, wipeS, backS, hg, hn, h1, h2, lim2, e1, e2, qD]
  · rw [show rg a b = (Int.gcd a b : Int) from if_neg hn] at *
    simp -implicitDefEqProofs [fn_ratio, rd, readS, takeS, readF, takeF, two, late, lateO, setS, hasS, hasL, lenOk, Ex.noio, Exs.noio, Oex.noio, retE, wipeS, backS, hg, hn, h1, h2, lim2, e1, e2, qD]
/-- is the data a fraction in its lowest terms? -/
def isFr : D → Bool
  | .tup [.int a, .int b] => decide (1 ≤ b) && (Int.gcd a b == 1)
  | _ => false
theorem isFr_qD (q : Rat) : isFr (qD q) = true := by
  have h1 := q.den_pos
  have h2 := q.reduced
  simp only [isFr, qD, Bool.and_eq_true, decide_eq_true_eq, beq_iff_eq]
  refine ⟨by omega, ?_⟩
  simpa [Int.gcd, Nat.Coprime] using h2
theorem run_is_fraction [Lr : LibRat gl T] {n : Nat} (hn : 2 ≤ n) (d : D) : callN gl T n "is_fraction" .un [d] = .ret (.bl (isFr d)) false .un := by
  refine c_eq (c_run Lr.e_is_fraction (by omega) rfl rfl ?_)
  have hi := fun d => run_is_integer (gl := gl) (T := T) (n := n - 1) (by omega) d
  have hg := fun a b => run_gcd_of (gl := gl) (T := T) (n := n - 1) (by omega) a b
  generalize callN gl T (n - 1) = C at hi hg
  cases d with
  | tup xs =>
    match xs with
    | [x, y] =>
      cases x <;> cases y <;> simp -implicitDefEqProofs [fn_is_fraction, rd, readS, takeS, readF, takeF, two, late, lateO, setS, hasS, hasL, lenOk, Ex.noio, Exs.noio, Oex.noio, retE, wipeS, backS, isTys, isTy, hi, hg, isInt, isFr]
      rename_i i j
      by_cases hj : j < 1
      · have : ¬ (1 ≤ j) := by omega
        simp -implicitDefEqProofs [hj, this]
      · have : 1 ≤ j := by omega
        simp -implicitDefEqProofs [hj, this, hg, rd, readS, takeS, readF, takeF, two, late, lateO, setS, hasS, hasL, lenOk, Ex.noio, Exs.noio, Oex.noio, retE, wipeS, backS]
        rw [Bool.eq_iff_iff]; simp only [beq_iff_eq]; omega
    | [] => simp -implicitDefEqProofs [fn_is_fraction, rd, readS, takeS, readF, takeF, two, late, lateO, setS, hasS, hasL, lenOk, Ex.noio, Exs.noio, Oex.noio, retE, wipeS, backS, isTys, isTy, isFr]
    | [x] => simp -implicitDefEqProofs [fn_is_fraction, rd, readS, takeS, readF, takeF, two, late, lateO, setS, hasS, hasL, lenOk, Ex.noio, Exs.noio, Oex.noio, retE, wipeS, backS, isTys, isTy, isFr]
    | x :: y :: z :: r =>
      have : ¬ ((r.length : Int) + 1 + 1 + 1 = 2) := by omega
      simp -implicitDefEqProofs [fn_is_fraction, rd, readS, takeS, readF, takeF, two, late, lateO, setS, hasS, hasL, lenOk, Ex.noio, Exs.noio, Oex.noio, retE, wipeS, backS, isTys, isTy, isFr, this]
  | _ => simp -implicitDefEqProofs [fn_is_fraction, rd, readS, takeS, readF, takeF, two, late, lateO, setS, hasS, hasL, lenOk, Ex.noio, Exs.noio, Oex.noio, retE, wipeS, backS, isTys, isTy, isFr]
/-- numerator and denominator below 2 ^ k -/
def Bd (k : Nat) (q : Rat) : Prop := q.num.natAbs < 2 ^ k ∧ q.den < 2 ^ k
@[simp] theorem ix_q0 (q : Rat) : ixD (qD q) (.int 0) = some (.int q.num) := rfl
@[simp] theorem ix_q1 (q : Rat) : ixD (qD q) (.int 1) = some (.int q.den) := rfl
theorem den_ne (q : Rat) : (q.den : Int) ≠ 0 := by have := q.den_pos; omega
theorem add_div (p q : Rat) : Rat.divInt (p.num * q.den + q.num * p.den) (p.den * q.den) = p + q := by
  have := Rat.divInt_add_divInt p.num q.num (den_ne p) (den_ne q)
  rw [← this]; simp
theorem sub_div (p q : Rat) : Rat.divInt (p.num * q.den - q.num * p.den) (p.den * q.den) = p - q := by
  have := Rat.divInt_sub_divInt p.num q.num (den_ne p) (den_ne q)
  rw [← this]; simp
theorem mul_div' (p q : Rat) : Rat.divInt (p.num * q.num) (p.den * q.den) = p * q := by
  have := Rat.divInt_mul_divInt p.num q.num (d₁ := p.den) (d₂ := q.den)
  rw [← this]; simp
/-- the sizes that adding wants -/
structure Sz (p q : Rat) : Prop where
  mp : Mo p.num
  mq : Mo q.num
  dd : Lo ((p.den : Int) * q.den)
theorem Sz.dp {p q : Rat} (h : Sz p q) : Mo (p.den : Int) := by
  refine (h.dd.le ?_).mo
  rw [Int.natAbs_mul]
  exact Nat.le_mul_of_pos_right _ (by have := q.den_pos; omega)
theorem Sz.dq {p q : Rat} (h : Sz p q) : Mo (q.den : Int) := by
  refine (h.dd.le ?_).mo
  rw [Int.natAbs_mul]
  exact Nat.le_mul_of_pos_left _ (by have := p.den_pos; omega)
theorem Sz.ne (p q : Rat) : (p.den : Int) * q.den ≠ 0 := Int.mul_ne_zero (den_ne p) (den_ne q)
theorem run_add_up [Lr : LibRat gl T] {n : Nat} (hn : 3 ≤ n) {p q : Rat} (h : Sz p q) : callN gl T n "add_up" .un [qD p, qD q] = .ret (qD (p + q)) false .un := by
  refine c_eq (c_run Lr.e_add_up (by omega) rfl rfl ?_)
  have hr := run_ratio (gl := gl) (T := T) (n := n - 1) (by omega) (a := p.num * q.den + q.num * p.den) (Sz.ne p q) h.dd
  generalize callN gl T (n - 1) = C at hr
  simp -implicitDefEqProofs [fn_add_up, rd, readS, takeS, readF, takeF, two, late, lateO, setS, hasS, hasL, lenOk, Ex.noio, Exs.noio, Oex.noio, retE, wipeS, backS, h.mp.mul h.dq, h.mq.mul h.dp, h.dp.mul h.dq, hr, add_div]
theorem run_take_off [Lr : LibRat gl T] {n : Nat} (hn : 3 ≤ n) {p q : Rat} (h : Sz p q) : callN gl T n "take_off" .un [qD p, qD q] = .ret (qD (p - q)) false .un := by
  refine c_eq (c_run Lr.e_take_off (by omega) rfl rfl ?_)
  have hr := run_ratio (gl := gl) (T := T) (n := n - 1) (by omega) (a := p.num * q.den - q.num * p.den) (Sz.ne p q) h.dd
  generalize callN gl T (n - 1) = C at hr
  simp -implicitDefEqProofs [fn_take_off, rd, readS, takeS, readF, takeF, two, late, lateO, setS, hasS, hasL, lenOk, Ex.noio, Exs.noio, Oex.noio, retE, wipeS, backS, h.mp.mul h.dq, h.mq.mul h.dp, h.dp.mul h.dq, hr, sub_div]
theorem run_is_below [Lr : LibRat gl T] {n : Nat} (hn : 1 ≤ n) {p q : Rat} (hp : Mo p.num) (hq : Mo q.num) (dp : Mo p.den) (dq : Mo q.den) : callN gl T n "is_below" .un [qD p, qD q] = .ret (.bl (decide (p < q))) false .un := by
  refine c_eq (c_run Lr.e_is_below (by omega) rfl rfl ?_)
  simp -implicitDefEqProofs [fn_is_below, rd, readS, takeS, readF, takeF, two, late, lateO, setS, hasS, hasL, lenOk, Ex.noio, Exs.noio, Oex.noio, retE, wipeS, backS, hp.mul dq, hq.mul dp, Rat.lt_iff]
def sumQ (xs : List Rat) : Rat := xs.foldl (· + ·) 0
@[simp] theorem g_ZERO_q : g_ZERO = qD 0 := rfl
@[simp] theorem g_ONE_q : g_ONE = qD 1 := rfl
end
end IL
end
section
set_option maxHeartbeats 1000000
namespace IL
open PySem
def fn__law_table : Fn := ⟨0, 1, false,
    (.cons (.set 0 (.lst (.cons false (.lit (.int 4183)) (.cons false (.lit (.int 977)) (.cons false (.lit (.int 6520)) (.cons false (.lit (.int 3301)) (.cons false (.lit (.int 8846)) (.cons false (.lit (.int 1259)) (.cons false (.lit (.int 7094)) (.cons false (.lit (.int 2635)) (.cons false (.lit (.int 5412)) (.cons false (.lit (.int 9968)) (.cons false (.lit (.int 31)) (.cons false (.lit (.int 6747)) (.cons false (.lit (.int 1902)) (.cons false (.lit (.int 8273)) (.cons false (.lit (.int 4550)) (.cons false (.lit (.int 3119)) (.cons false (.lit (.int 7486)) (.cons false (.lit (.int 625)) .nil))))))))))))))))))))
    (.cons (.set 0 (.bin .add (.loc 0) (.lst (.cons false (.lit (.int 9037)) (.cons false (.lit (.int 5204)) (.cons false (.lit (.int 1378)) (.cons false (.lit (.int 6891)) (.cons false (.lit (.int 2946)) (.cons false (.lit (.int 8015)) (.cons false (.lit (.int 4667)) (.cons false (.lit (.int 193)) (.cons false (.lit (.int 7352)) (.cons false (.lit (.int 3829)) (.cons false (.lit (.int 9510)) (.cons false (.lit (.int 2074)) (.cons false (.lit (.int 5981)) (.cons false (.lit (.int 8432)) (.cons false (.lit (.int 746)) (.cons false (.lit (.int 6163)) (.cons false (.lit (.int 3508)) .nil))))))))))))))))))))
    (.cons (.set 0 (.bin .add (.loc 0) (.lst (.cons false (.lit (.int 9295)) (.cons false (.lit (.int 1641)) (.cons false (.lit (.int 7820)) (.cons false (.lit (.int 4097)) (.cons false (.lit (.int 2316)) (.cons false (.lit (.int 5733)) (.cons false (.lit (.int 8954)) (.cons false (.lit (.int 1480)) (.cons false (.lit (.int 6609)) (.cons false (.lit (.int 372)) (.cons false (.lit (.int 9171)) (.cons false (.lit (.int 3046)) (.cons false (.lit (.int 7567)) (.cons false (.lit (.int 5828)) (.cons false (.lit (.int 2203)) (.cons false (.lit (.int 8690)) (.cons false (.lit (.int 4415)) .nil))))))))))))))))))))
    (.cons (.set 0 (.bin .add (.loc 0) (.lst (.cons false (.lit (.int 1136)) (.cons false (.lit (.int 6974)) (.cons false (.lit (.int 3757)) (.cons false (.lit (.int 9382)) (.cons false (.lit (.int 509)) (.cons false (.lit (.int 7241)) (.cons false (.lit (.int 2868)) (.cons false (.lit (.int 5095)) (.cons false (.lit (.int 8328)) .nil))))))))))))
    (.cons (.ret (.loc 0))
    .nil)))))⟩
def fn__law_pool : Fn := ⟨1, 1, false,
    (.cons (.ret (.bin .add (.lst (.cons false (.lit (.int 0)) (.cons false (.lit (.int 0)) .nil))) (.blt .list (.cons false (.loc 0) .nil))))
    .nil)⟩
def fn__law_draw : Fn := ⟨2, 6, true,
    (.cons (.iff (.cmp .eq (.blt .len (.cons false (.loc 0) .nil)) (.lit (.int 2))) (.cons (.app 0 (.lit (.int 0)))
    .nil) .nil)
    (.cons (.put 0 (.lit (.int 1)) (.bin .add (.ix (.loc 0) (.lit (.int 1))) (.lit (.int 1))))
    (.cons (.set 2 (.bin .add (.lit (.int 2)) (.bin .mod (.blt .int (.cons false (.ix (.loc 0) (.lit (.int 0))) .nil)) (.bin .sub (.blt .len (.cons false (.loc 0) .nil)) (.lit (.int 2))))))
    (.cons (.set 3 (.blt .int (.cons false (.ix (.loc 0) (.loc 2)) .nil)))
    (.cons (.iff (.cmp .ge (.loc 3) (.bin .pow (.lit (.int 10)) (.lit (.int 18)))) (.cons (.put 0 (.loc 2) (.bin .fdiv (.loc 3) (.loc 1)))
    (.cons (.ret (.bin .mod (.blt .int (.cons false (.loc 3) .nil)) (.loc 1)))
    .nil)) .nil)
    (.cons (.put 0 (.lit (.int 0)) (.bin .add (.ix (.loc 0) (.lit (.int 0))) (.lit (.int 1))))
    (.cons (.set 4 (.blt .int (.cons false (.ix (.loc 0) (.lit (.int 1))) .nil)))
    (.cons (.set 5 (.bin .add (.bin .add (.bin .mul (.loc 3) (.lit (.int 10007))) (.bin .mul (.bin .fdiv (.loc 3) (.lit (.int 13))) (.bin .mul (.lit (.int 7)) (.loc 4)))) (.ix (.call "_law_table" .nil) (.bin .mod (.loc 4) (.lit (.int 61))))))
    (.cons (.ret (.bin .mod (.blt .int (.cons false (.loc 5) .nil)) (.loc 1)))
    .nil)))))))))⟩
def tabDraw : List (Str × Fn) := [("_law_table", fn__law_table), ("_law_pool", fn__law_pool), ("_law_draw", fn__law_draw)]
class LibDraw (gl : Str → Option D) (T : Str → Option Fn) : Prop where
  e__law_table : T "_law_table" = some fn__law_table
  e__law_pool : T "_law_pool" = some fn__law_pool
  e__law_draw : T "_law_draw" = some fn__law_draw
section
variable {gl : Str → Option D} {T : Str → Option Fn}
def tabN : List Int := [4183, 977, 6520, 3301, 8846, 1259, 7094, 2635, 5412, 9968, 31, 6747, 1902, 8273, 4550, 3119, 7486, 625, 9037, 5204, 1378, 6891, 2946, 8015, 4667, 193, 7352, 3829, 9510, 2074, 5981, 8432, 746, 6163, 3508,
  9295, 1641, 7820, 4097, 2316, 5733, 8954, 1480, 6609, 372, 9171, 3046, 7567, 5828, 2203, 8690, 4415, 1136, 6974, 3757, 9382, 509, 7241, 2868, 5095, 8328]
theorem run_table (hT : T "_law_table" = some fn__law_table) (n : Nat) : callN gl T (n + 1) "_law_table" .un [] = .ret (.lst (tabN.map D.int)) true .un := by
  rw [run_f hT rfl rfl]
  rfl
theorem run_pool (hT : T "_law_pool" = some fn__law_pool) (n : Nat) (ns : List Int) (h : ns.length ≤ 1000) : callN gl T (n + 1) "_law_pool" .un [.lst (ns.map D.int)] = .ret (.lst ((0 :: 0 :: ns).map D.int)) true .un := by
  rw [run_f hT rfl rfl]
  have h2 : 2 + ns.length ≤ limN := by show 2 + ns.length ≤ 16000000; omega
  have h3 : limN = 16000000 := rfl
  have h4 : (0 :: 0 :: ns).length ≤ 16000000 := by simp; omega
  have h5 : 2 + ns.length ≤ 16000000 := by omega
  simp [fn__law_pool, two, late, rd, readS, takeS, lenOk, endR, backIo, retE, h3, h5]
structure Pool (t : Int) (ns : List Int) : Prop where
  lo : 2 ≤ ns.length
  hi : ns.length ≤ 1000
  at_ : ns[1]? = some t
  t0 : 0 ≤ t
  t1 : t ≤ 1000000000000000
theorem atI_int {ns : List Int} {i : Int} {k : Int} (h0 : 0 ≤ i) (h : ns[i.toNat]? = some k) : L2.atI (ns.map D.int) i = some (.int k) := by
  have hl := (List.getElem?_eq_some_iff.mp h).1
  have h1 : i < ((ns.map D.int).length : Int) := by rw [List.length_map]; omega
  unfold L2.atI L2.ixN
  rw [if_pos h0, if_pos h1]
  simp [h]
theorem ixN_int {ns : List Int} {i : Int} (h0 : 0 ≤ i) (h : i < (ns.length : Int)) : L2.ixN ns.length i = some i.toNat := by
  unfold L2.ixN
  rw [if_pos h0, if_pos h]
theorem noPyL {a b : Int} (h : b.natAbs.log2 < 9000) : Builtin.divisionGoesByPylong a b = false := PyProof.noPylong_of_log2 h
/-- the drawing behind the first test -/
def drawRest : Sms := match fn__law_draw.body with
  | .cons _ r => r
  | .nil => .nil
theorem draw_rest (hT : T "_law_table" = some fn__law_table) (n : Nat) {ns : List Int} {t m : Int} (h3 : 3 ≤ ns.length) (hh : ns.length ≤ 1000) (h1 : ns[1]? = some t) (t0 : 0 ≤ t) (t1 : t < 1000000000000000) (m0 : 0 < m) (m1 : m.natAbs.log2 < 9000) :
    ∃ (r : Int) (ns' : List Int) (s' : Sg), evMs gl (callN gl T (n + 1)) drawRest [.ow true (ns.map D.int), .sh (.int m), .un, .un, .un, .un] = .ok (.ret (.int r) false) s' ∧ s'.getD 0 .un = .ow true (ns'.map D.int) ∧ 0 ≤ r ∧ r < m ∧ Pool (t + 1) ns' ∧ ns'.length = ns.length := by
  obtain ⟨c0, e0⟩ : ∃ c, ns[0]? = some c := ⟨_, List.getElem?_eq_getElem (by omega)⟩
  have hl : (ns.length : Int) - 2 > 0 := by omega
  have hm0 : 0 ≤ c0.fmod ((ns.length : Int) - 2) := Int.fmod_nonneg_of_pos _ hl
  have hm1 : c0.fmod ((ns.length : Int) - 2) < (ns.length : Int) - 2 := Int.fmod_lt_of_pos _ hl
  generalize hat : c0.fmod ((ns.length : Int) - 2) = q at hm0 hm1
  obtain ⟨c, ec⟩ : ∃ c, ns[(2 + q).toNat]? = some c := ⟨_, List.getElem?_eq_getElem (by omega)⟩
  have i1 : L2.ixN ns.length 1 = some 1 := ixN_int (by omega) (by omega)
  have i0 : L2.ixN ns.length 0 = some 0 := ixN_int (by omega) (by omega)
  have iq : L2.ixN ns.length (2 + q) = some (2 + q).toNat := ixN_int (by omega) (by omega)
  have b0 : ((ns.map D.int).set 1 (.int (t + 1)))[0]? = some (.int c0) := by rw [List.getElem?_set_ne (by simp)]; simp [e0]
  have bq : L2.atI ((ns.map D.int).set 1 (.int (t + 1))) (2 + q) = some (.int c) := by
    have := atI_int (ns := ns.set 1 (t + 1)) (i := 2 + q) (k := c) (by omega) (by rw [List.getElem?_set_ne (by omega)]; exact ec)
    rw [List.map_set] at this; exact this
  have hne : ¬ ((ns.length : Int) - 2 = 0) := by omega
  have pw : powOk 10 18 = true := by decide
  have dm : ∀ x, divOk x m = true := fun x => by unfold divOk; rw [noPyL m1]; simp; omega
  have mn : m ≠ 0 := by omega
  generalize hC : callN gl T (n + 1) = C
  have tb : C "_law_table" .un [] = .ret (.lst (tabN.map D.int)) true .un := by rw [← hC]; exact run_table hT n
  have st1 : evM gl C (.put 0 (.lit (.int 1)) (.bin .add (.ix (.loc 0) (.lit (.int 1))) (.lit (.int 1)))) [.ow true (ns.map D.int), .sh (.int m), .un, .un, .un, .un] = .ok .nx [.ow true ((ns.map D.int).set 1 (.int (t + 1))), .sh (.int m), .un, .un, .un, .un] := by
    simp [two, late, rd, readS, hasS, h1, i1, putS]
  have st2 : evM gl C (.set 2 (.bin .add (.lit (.int 2)) (.bin .mod (.blt .int (.cons false (.ix (.loc 0) (.lit (.int 0))) .nil)) (.bin .sub (.blt .len (.cons false (.loc 0) .nil)) (.lit (.int 2)))))) [.ow true ((ns.map D.int).set 1 (.int (t + 1))), .sh (.int m), .un, .un, .un, .un]
      = .ok .nx [.ow true ((ns.map D.int).set 1 (.int (t + 1))), .sh (.int m), .sh (.int (2 + q)), .un, .un, .un] := by
    simp [two, late, rd, readS, b0, hne, hat, setS, Slot.pinned]
  have st3 : evM gl C (.set 3 (.blt .int (.cons false (.ix (.loc 0) (.loc 2)) .nil))) [.ow true ((ns.map D.int).set 1 (.int (t + 1))), .sh (.int m), .sh (.int (2 + q)), .un, .un, .un]
      = .ok .nx [.ow true ((ns.map D.int).set 1 (.int (t + 1))), .sh (.int m), .sh (.int (2 + q)), .sh (.int c), .un, .un] := by
    simp [two, late, rd, readS, bq, setS, Slot.pinned]
  show ∃ (r : Int) (ns' : List Int) (s' : Sg), evMs gl C (.cons _ (.cons _ (.cons _ (.cons _ _)))) _ = _ ∧ _
  rw [rSs_cons, st1, seqF_nx, rSs_cons, st2, seqF_nx, rSs_cons, st3, seqF_nx]
  by_cases hc : (1000000000000000000 : Int) ≤ c
  · refine ⟨c.fmod m, (ns.set 1 (t + 1)).set (2 + q).toNat (c.fdiv m), [.ow true (((ns.set 1 (t + 1)).set (2 + q).toNat (c.fdiv m)).map D.int), .sh (.int m), .sh (.int (2 + q)), .sh (.int c), .un, .un], ?_, rfl, Int.fmod_nonneg_of_pos _ m0, Int.fmod_lt_of_pos _ m0, ⟨by simp; omega, by simp; omega, ?_, by omega, by omega⟩, by simp⟩
    · simp [two, late, rd, readS, takeS, hasS, pw, hc, dm, putS, iq, retE, mn]
    · rw [List.getElem?_set_ne (by omega), List.getElem?_set_self (by omega)]
  · have hz0 : 0 ≤ (t + 1).fmod 61 := Int.fmod_nonneg_of_pos _ (by omega)
    have hz1 : (t + 1).fmod 61 < 61 := Int.fmod_lt_of_pos _ (by omega)
    generalize hz : (t + 1).fmod 61 = z at hz0 hz1
    have hlen : tabN.length = 61 := rfl
    obtain ⟨k, ek⟩ : ∃ k, tabN[z.toNat]? = some k := ⟨_, List.getElem?_eq_getElem (by omega)⟩
    have ak : L2.atI (tabN.map D.int) z = some (.int k) := atI_int hz0 ek
    have w1 : (((ns.map D.int).set 1 (.int (t + 1))).set 0 (.int (c0 + 1)))[1]? = some (.int (t + 1)) := by
      rw [List.getElem?_set_ne (by simp), List.getElem?_set_self (by simp; omega)]
    have m1' : mulOk c 10007 = true := by unfold mulOk; rw [show smallI 10007 = true from by decide]; simp
    have m2' : mulOk 7 (t + 1) = true := by unfold mulOk; rw [show smallI 7 = true from by decide]; simp
    have m3' : mulOk (c.fdiv 13) (7 * (t + 1)) = true := by
      unfold mulOk
      rw [show smallI (7 * (t + 1)) = true from decide_eq_true (by omega)]; simp
    have d13 : divOk c 13 = true := by unfold divOk; rw [noPyL (by decide)]; simp
    generalize hN : c * 10007 + c.fdiv 13 * (7 * (t + 1)) + k = N
    refine ⟨N.fmod m, (ns.set 1 (t + 1)).set 0 (c0 + 1), [.ow true (((ns.map D.int).set 1 (.int (t + 1))).set 0 (.int (c0 + 1))), .sh (.int m), .sh (.int (2 + q)), .sh (.int c), .sh (.int (t + 1)), .sh (.int N)], ?_, by simp [List.map_set], Int.fmod_nonneg_of_pos _ m0, Int.fmod_lt_of_pos _ m0, ⟨by simp; omega, by simp; omega, ?_, by omega, by omega⟩, by simp⟩
    · simp [two, late, rd, readS, takeS, hasS, pw, hc, putS, i0, b0, setS, Slot.pinned, w1, m1', m2', m3', d13, tb, hz, ak, hN, retE, mn]
    · rw [List.getElem?_set_ne (by omega), List.getElem?_set_self (by omega)]
/-- _law_draw -/
theorem draw (hT : T "_law_table" = some fn__law_table) (hD : T "_law_draw" = some fn__law_draw) (n : Nat) {p : Bool} {ns : List Int} {t m : Int} (hp : Pool t ns) (t1 : t < 1000000000000000) (hh : ns.length < 1000) (m0 : 0 < m) (m1 : m.natAbs.log2 < 9000) :
    ∃ (r : Int) (ns' : List Int), callN gl T (n + 2) "_law_draw" (.ow p (ns.map D.int)) [.int m] = .ret (.int r) false (.ow p (ns'.map D.int)) ∧ 0 ≤ r ∧ r < m ∧ Pool (t + 1) ns' ∧ ns'.length ≤ max 3 ns.length := by
  rw [run_io hD rfl rfl]
  have fin : ∀ (ns1 : List Int), 3 ≤ ns1.length → ns1.length ≤ 1000 → ns1[1]? = some t → ns1.length ≤ max 3 ns.length → evM gl (callN gl T (n + 1)) (.iff (.cmp .eq (.blt .len (.cons false (.loc 0) .nil)) (.lit (.int 2))) (.cons (.app 0 (.lit (.int 0))) .nil) .nil) [.ow true (ns.map D.int), .sh (.int m), .un, .un, .un, .un] = .ok .nx [.ow true (ns1.map D.int), .sh (.int m), .un, .un, .un, .un] →
      ∃ (r : Int) (ns' : List Int), endR fn__law_draw (.ow p (ns.map D.int)) (evMs gl (callN gl T (n + 1)) fn__law_draw.body (.ow true (ns.map D.int) :: [D.int m].map Slot.sh ++ List.replicate (fn__law_draw.ns - fn__law_draw.np) .un)) = .ret (.int r) false (.ow p (ns'.map D.int)) ∧ 0 ≤ r ∧ r < m ∧ Pool (t + 1) ns' ∧ ns'.length ≤ max 3 ns.length := fun ns1 h1 h2 h3 h4 hs => by
    obtain ⟨r, ns', s', e, es, r0, r1, hp', hl⟩ := draw_rest (gl := gl) hT n h1 h2 h3 hp.t0 t1 m0 m1
    refine ⟨r, ns', ?_, r0, r1, hp', by omega⟩
    have e2 : evMs gl (callN gl T (n + 1)) fn__law_draw.body [.ow true (ns.map D.int), .sh (.int m), .un, .un, .un, .un] = .ok (.ret (.int r) false) s' := by
      show seqF (evM gl (callN gl T (n + 1)) _ _) (evMs gl (callN gl T (n + 1)) drawRest) = _
      rw [hs, seqF_nx, e]
    show endR fn__law_draw _ (evMs gl (callN gl T (n + 1)) fn__law_draw.body [.ow true (ns.map D.int), .sh (.int m), .un, .un, .un, .un]) = _
    rw [e2]
    show CR.ret (.int r) false (unpin p (s'.getD 0 .un)) = _
    rw [es]; rfl
  have hlo := hp.lo
  by_cases h2 : ns.length = 2
  · refine fin (ns ++ [0]) (by simp; omega) (by simp; omega) (by rw [List.getElem?_append_left (by omega)]; exact hp.at_) (by simp; omega) ?_
    have hl : 3 ≤ limN := by decide
    simp [rd, readS, two, late, h2, hasL, appS, hl]
  · refine fin ns (by omega) hp.hi hp.at_ (by omega) ?_
    have : ¬ ((ns.length : Int) = 2) := by omega
    simp [rd, readS, two, late, this]
/-- a pool after at most t draws -/
structure Pl (t : Nat) (xs : List D) : Prop where
  ex : ∃ ns : List Int, xs = ns.map D.int ∧ ns.length ≤ 100 ∧ ∃ u : Int, u ≤ t ∧ Pool u ns
theorem Pl.mono {t u : Nat} {xs : List D} (h : Pl t xs) (hu : t ≤ u) : Pl u xs := by
  obtain ⟨ns, e, hl, v, hv, p⟩ := h.ex
  exact ⟨ns, e, hl, v, by omega, p⟩
theorem run_pool' [Ld : LibDraw gl T] {n : Nat} (hn : 1 ≤ n) (ns : List Int) (h : ns.length ≤ 63) : ∃ xs, callN gl T n "_law_pool" .un [.lst (ns.map D.int)] = .ret (.lst xs) true .un ∧ Pl 0 xs := by
  obtain ⟨m, rfl⟩ : ∃ m, n = m + 1 := ⟨n - 1, by omega⟩
  exact ⟨_, run_pool Ld.e__law_pool m ns (by omega), _, rfl, by simp; omega, 0, by omega, ⟨by simp, by simp; omega, rfl, by omega, by omega⟩⟩
theorem c_draw [Ld : LibDraw gl T] {n : Nat} (hn : 2 ≤ n) {p : Bool} {xs : List D} {t : Nat} (hp : Pl t xs) (ht : t ≤ 100000000000000) {m : Int} (m0 : 0 < m) (m1 : Lo m) {Q : D → Bool → Slot → Prop} {X : Str → Option D → Slot → Prop}
    (k : ∀ r xs', 0 ≤ r → r < m → Pl (t + 1) xs' → Q (.int r) false (.ow p xs')) : wC (callN gl T n "_law_draw" (.ow p xs) [.int m]) Q X := by
  obtain ⟨ns, rfl, hl, u, hu, hP⟩ := hp.ex
  obtain ⟨j, rfl⟩ : ∃ j, n = j + 2 := ⟨n - 2, by omega⟩
  obtain ⟨r, ns', e, r0, r1, h1, h2⟩ := draw (gl := gl) Ld.e__law_table Ld.e__law_draw j (p := p) hP (by omega) (by omega) m0 m1.log
  exact c_of e (k r _ r0 r1 ⟨ns', rfl, by omega, u + 1, by omega, h1⟩)
end
end IL
end
section
set_option maxHeartbeats 1000000
namespace IL
open PySem
def fn__law_gcd : Fn := ⟨2, 4, false,
    (.cons (.set 0 (.blt .abs (.cons false (.loc 0) .nil)))
    (.cons (.set 1 (.blt .abs (.cons false (.loc 1) .nil)))
    (.cons (.forr (.nm 2) (.rng (.bin .add (.bin .mul (.lit (.int 2)) (.mth .bits (.loc 1) .nil)) (.lit (.int 2)))) (.cons (.iff (.cmp .ne (.loc 1) (.lit (.int 0))) (.cons (.set 3 (.bin .mod (.blt .int (.cons false (.loc 0) .nil)) (.loc 1)))
    (.cons (.set 0 (.loc 1))
    (.cons (.set 1 (.loc 3))
    .nil))) .nil)
    .nil))
    (.cons (.ret (.loc 0))
    .nil))))⟩
def fn__law_lowest : Fn := ⟨2, 3, false,
    (.cons (.set 2 (.call "_law_gcd" (.cons false (.loc 0) (.cons false (.loc 1) .nil))))
    (.cons (.iff (.cmp .lt (.loc 1) (.lit (.int 0))) (.cons (.set 2 (.neg (.loc 2)))
    .nil) .nil)
    (.cons (.ret (.tup (.cons false (.bin .fdiv (.loc 0) (.loc 2)) (.cons false (.bin .fdiv (.loc 1) (.loc 2)) .nil))))
    .nil)))⟩
def fn__law_integer : Fn := ⟨1, 1, false,
    (.cons (.ret (.and (.isi (.loc 0) [.int]) (.not (.isi (.loc 0) [.bool]))))
    .nil)⟩
def fn__law_fraction : Fn := ⟨1, 1, false,
    (.cons (.iff (.or (.not (.isi (.loc 0) [.tuple])) (.cmp .ne (.blt .len (.cons false (.loc 0) .nil)) (.lit (.int 2)))) (.cons (.ret (.lit (.bl false)))
    .nil) .nil)
    (.cons (.iff (.or (.not (.call "_law_integer" (.cons false (.ix (.loc 0) (.lit (.int 0))) .nil))) (.or (.not (.call "_law_integer" (.cons false (.ix (.loc 0) (.lit (.int 1))) .nil))) (.cmp .lt (.ix (.loc 0) (.lit (.int 1))) (.lit (.int 1))))) (.cons (.ret (.lit (.bl false)))
    .nil) .nil)
    (.cons (.ret (.cmp .eq (.call "_law_gcd" (.cons false (.ix (.loc 0) (.lit (.int 0))) (.cons false (.ix (.loc 0) (.lit (.int 1))) .nil))) (.lit (.int 1))))
    .nil)))⟩
def tabLaw : List (Str × Fn) := [("_law_gcd", fn__law_gcd), ("_law_lowest", fn__law_lowest), ("_law_integer", fn__law_integer), ("_law_fraction", fn__law_fraction)]
class LibLaw (gl : Str → Option D) (T : Str → Option Fn) : Prop where
  e__law_gcd : T "_law_gcd" = some fn__law_gcd
  e__law_lowest : T "_law_lowest" = some fn__law_lowest
  e__law_integer : T "_law_integer" = some fn__law_integer
  e__law_fraction : T "_law_fraction" = some fn__law_fraction
section
variable {gl : Str → Option D} {T : Str → Option Fn}
def eu : Nat → Nat → Nat → Nat × Nat
  | 0, a, b => (a, b)
  | n + 1, a, b => if b = 0 then eu n a b else eu n b (a % b)
theorem eu_zero : ∀ (n a : Nat), eu n a 0 = (a, 0)
  | 0, _ => rfl
  | n + 1, a => by simp [eu, eu_zero n a]
theorem eu_gcd : ∀ (k a b n : Nat), b < 2 ^ k → 2 * k ≤ n → eu n a b = (Nat.gcd a b, 0)
  | 0, a, b, n, h, _ => by
    obtain rfl : b = 0 := by simp at h; exact h
    rw [eu_zero]; simp
  | k + 1, a, b, n, h, hn => by
    by_cases hb : b = 0
    · subst hb; rw [eu_zero]; simp
    · obtain ⟨m, rfl⟩ : ∃ m, n = m + 2 := ⟨n - 2, by omega⟩
      rw [eu, if_neg hb]
      by_cases hc : a % b = 0
      · rw [eu, if_pos hc, hc, eu_zero, Nat.gcd_comm, Nat.gcd_rec, hc]; simp
      · rw [eu, if_neg hc]
        have hlt : a % b < b := Nat.mod_lt _ (by omega)
        have h2 : b % (a % b) < 2 ^ k := by
          have h3 : b % (a % b) < a % b := Nat.mod_lt _ (by omega)
          have h4 : b % (a % b) + (a % b) ≤ b := by
            have := Nat.mod_add_div b (a % b)
            have h5 : 1 ≤ b / (a % b) := (Nat.one_le_div_iff (by omega)).mpr (by omega)
            have h6 : (a % b) * 1 ≤ (a % b) * (b / (a % b)) := Nat.mul_le_mul_left _ h5
            omega
          rw [Nat.pow_succ] at h
          omega
        rw [eu_gcd k (a % b) (b % (a % b)) m h2 (by omega)]
        congr 1
        rw [Nat.gcd_comm (a % b), ← Nat.gcd_rec (a % b) b, ← Nat.gcd_rec b a, Nat.gcd_comm]
theorem bits_lt (b : Nat) : b < 2 ^ bitsOf (b : Int) := by
  unfold bitsOf Builtin.Int.intBits
  split
  · rename_i h
    have : b = 0 := by simpa using h
    subst this; simp
  · exact Nat.lt_log2_self
theorem bits_mo {b : Int} (h : Mo b) : bitsOf b ≤ 400000 := by
  have h1 := h.log
  unfold bitsOf Builtin.Int.intBits
  split
  · omega
  · omega
theorem rngD_ok {a b : Int} (h1 : -1000000000 ≤ a) (h2 : a ≤ 1000000000) (h3 : -1000000000 ≤ b) (h4 : b ≤ 1000000000) (h5 : b - a ≤ 16000000) : rngD a b = some (rngL a b) := by
  unfold rngD
  exact if_pos ⟨h1, h2, h3, h4, show (b - a).toNat ≤ 16000000 by omega⟩
theorem lg_bits (b : Int) : bitsOf ((b.natAbs : Nat) : Int) = bitsOf b := by
  unfold bitsOf Builtin.Int.intBits
  simp
theorem mul2 (k : Int) : mulOk 2 k = true := by unfold mulOk; rw [show smallI 2 = true from by decide]; simp
theorem rngL_len (k : Nat) : (rngL 0 (2 * (k : Int) + 2)).length = 2 * k + 2 := by
  unfold rngL
  simp
  omega
theorem ite_abs (a : Int) : (if a < 0 then -a else a) = ((a.natAbs : Nat) : Int) := by omega
theorem run__law_gcd [Ll : LibLaw gl T] {n : Nat} (hn : 1 ≤ n) (a : Int) {b : Int} (hb : Mo b) : callN gl T n "_law_gcd" .un [.int a, .int b] = .ret (.int (Int.gcd a b)) false .un := by
  refine c_eq (c_run Ll.e__law_gcd (by omega) rfl rfl ?_)
  have hbits := lg_bits b
  have hm := mul2 (bitsOf b)
  have hm2 := bits_mo hb
  have hr : rngD 0 (2 * (bitsOf b : Int) + 2) = some (rngL 0 (2 * (bitsOf b : Int) + 2)) := rngD_ok (by omega) (by omega) (by omega) (by omega) (by omega)
  have hl := rngL_len (bitsOf b)
  have hg : eu (2 * bitsOf b + 2) a.natAbs b.natAbs = (Nat.gcd a.natAbs b.natAbs, 0) := eu_gcd (bitsOf b) _ _ _ (by rw [← hbits]; exact bits_lt _) (by omega)
  generalize callN gl T (n - 1) = C
  generalize rngL 0 (2 * (bitsOf b : Int) + 2) = L at hl hr
  unfold fn__law_gcd
  refine s_cons ?_
  simp -implicitDefEqProofs [-rSs_cons, rd, readS, takeS, readF, takeF, two, late, lateO, setS, hasS, hasL, lenOk, Ex.noio, Exs.noio, Oex.noio, retE, wipeS, backS, ite_abs]
  refine s_cons ?_
  simp -implicitDefEqProofs [-rSs_cons, rd, readS, takeS, readF, takeF, two, late, lateO, setS, hasS, hasL, lenOk, Ex.noio, Exs.noio, Oex.noio, retE, wipeS, backS, ite_abs]
  refine s_cons ?_
  simp -implicitDefEqProofs [-rSs_cons, rd, readS, takeS, readF, takeF, two, late, lateO, setS, hasS, hasL, lenOk, Ex.noio, Exs.noio, Oex.noio, retE, wipeS, backS, hbits, hm, hr]
  refine s_for (fun ds s => ∃ (x y : Nat) (v w : Slot), s = [.sh (.int x), .sh (.int y), v, w] ∧ v.pinned = false ∧ w.pinned = false ∧ eu ds.length x y = (Nat.gcd a.natAbs b.natAbs, 0)) _ _ ⟨a.natAbs, b.natAbs, .un, .un, by simp, rfl, rfl, by rw [hl]; exact hg⟩ ?_ ?_
  · rintro d ds s ⟨x, y, v, w, rfl, hv, hw, he⟩
    by_cases hy : y = 0
    · subst hy
      rw [List.length_cons, eu, if_pos rfl] at he
      simp -implicitDefEqProofs [rd, readS, takeS, readF, takeF, two, late, lateO, setS, hasS, hasL, lenOk, Ex.noio, Exs.noio, Oex.noio, retE, wipeS, backS, asg, hv, hw]
      exact ⟨_, _, _, _, ⟨rfl, by omega, rfl, rfl⟩, by simp, hw, he⟩
    · rw [List.length_cons, eu, if_neg hy] at he
      have h2 : ¬ ((y : Int) = 0) := by omega
      have hm : (x : Int).fmod (y : Int) = ((x % y : Nat) : Int) := by rw [Int.fmod_eq_emod_of_nonneg _ (by omega)]; omega
      simp -implicitDefEqProofs [rd, readS, takeS, readF, takeF, two, late, lateO, setS, hasS, hasL, lenOk, Ex.noio, Exs.noio, Oex.noio, retE, wipeS, backS, asg, hv, hw, hy, h2, hm]
      exact ⟨_, _, _, _, ⟨rfl, rfl, rfl, rfl⟩, by simp, by simp, by simpa using he⟩
  · rintro s ⟨x, y, v, w, rfl, hv, hw, he⟩
    simp [eu] at he
    simp -implicitDefEqProofs [rd, readS, takeS, readF, takeF, two, late, lateO, setS, hasS, hasL, lenOk, Ex.noio, Exs.noio, Oex.noio, retE, wipeS, backS, he.1, Int.gcd]
theorem run__law_lowest [Ll : LibLaw gl T] {n : Nat} (hn : 2 ≤ n) (a : Int) {b : Int} (hb : b ≠ 0) (sb : Lo b) : callN gl T n "_law_lowest" .un [.int a, .int b] = .ret (qD (Rat.divInt a b)) false .un := by
  refine c_eq (c_run Ll.e__law_lowest (by omega) rfl rfl ?_)
  have hg := run__law_gcd (gl := gl) (T := T) (n := n - 1) (by omega) a sb.mo
  have h1 := (rg_lo (a := a) hb sb).div (i := a) (rg_ne hb)
  have h2 := (rg_lo (a := a) hb sb).div (i := b) (rg_ne hb)
  have e1 := rg_num (a := a) hb
  have e2 := rg_den (a := a) hb
  generalize callN gl T (n - 1) = C at hg
  by_cases hn : b < 0
  · rw [show rg a b = -(Int.gcd a b : Int) from if_pos hn] at *
    simp -implicitDefEqProofs [fn__law_lowest, rd, readS, takeS, readF, takeF, two, late, lateO, setS, hasS, hasL, lenOk, Ex.noio, Exs.noio, Oex.noio, retE, wipeS, backS, hg, hn, h1, h2, lim2, e1, e2, qD]
  · rw [show rg a b = (Int.gcd a b : Int) from if_neg hn] at *
    simp -implicitDefEqProofs [fn__law_lowest, rd, readS, takeS, readF, takeF, two, late, lateO, setS, hasS, hasL, lenOk, Ex.noio, Exs.noio, Oex.noio, retE, wipeS, backS, hg, hn, h1, h2, lim2, e1, e2, qD]
theorem run__law_integer [Ll : LibLaw gl T] {n : Nat} (hn : 1 ≤ n) (d : D) : callN gl T n "_law_integer" .un [d] = .ret (.bl (isInt d)) false .un := by
  refine c_eq (c_run Ll.e__law_integer hn rfl rfl ?_)
  refine s_cons ?_
  cases d <;> simp -implicitDefEqProofs [fn__law_integer, rd, readS, takeS, readF, takeF, two, late, lateO, setS, hasS, hasL, lenOk, Ex.noio, Exs.noio, Oex.noio, retE, wipeS, backS, isTys, isTy, isInt]
theorem run__law_fraction [Ll : LibLaw gl T] {n : Nat} (hn : 2 ≤ n) {q : Rat} (h : Mo (q.den : Int)) : callN gl T n "_law_fraction" .un [qD q] = .ret (.bl true) false .un := by
  refine c_eq (c_run Ll.e__law_fraction (by omega) rfl rfl ?_)
  have hi := fun d => run__law_integer (gl := gl) (T := T) (n := n - 1) (by omega) d
  have hg := run__law_gcd (gl := gl) (T := T) (n := n - 1) (by omega) q.num h
  have hc : Int.gcd q.num q.den = 1 := by
    have h2 := q.reduced
    simpa [Int.gcd, Nat.Coprime] using h2
  have h1 : ¬ ((q.den : Int) < 1) := by have := q.den_pos; omega
  rw [hc] at hg
  generalize callN gl T (n - 1) = C at hi hg
  have hx0 := ix_q0 q
  have hx1 := ix_q1 q
  unfold qD at hx0 hx1 ⊢
  simp -implicitDefEqProofs [fn__law_fraction, rd, readS, takeS, readF, takeF, two, late, lateO, setS, hasS, hasL, lenOk, Ex.noio, Exs.noio, Oex.noio, retE, wipeS, backS, isTys, isTy, hi, hg, isInt, hx0, hx1, h1]
end
end IL
end
section
set_option maxHeartbeats 1000000
namespace IL
open PySem
theorem divInt_bd {a b : Int} {k : Nat} (hb : b ≠ 0) (h1 : a.natAbs < 2 ^ k) (h2 : b.natAbs < 2 ^ k) : Bd k (Rat.divInt a b) := by
  constructor
  · rw [Rat.num_divInt]
    have h3 : b.sign.natAbs = 1 := by
      rcases Int.lt_or_gt_of_ne hb with h | h
      · rw [Int.sign_eq_neg_one_of_neg h]; rfl
      · rw [Int.sign_eq_one_of_pos h]; rfl
    obtain ⟨u, hu⟩ := Int.gcd_dvd_right b a
    have hz : 0 < Int.gcd b a := Nat.pos_of_ne_zero fun h => hb (Int.gcd_eq_zero_iff.mp h).1
    generalize Int.gcd b a = g at *
    subst hu
    rw [Int.mul_left_comm, Int.mul_ediv_cancel_left _ (by omega), Int.natAbs_mul, h3, Nat.one_mul]
    rw [Int.natAbs_mul] at h1
    exact Nat.lt_of_le_of_lt (Nat.le_mul_of_pos_left _ (by omega)) h1
  · rw [Rat.den_divInt, if_neg hb]
    exact Nat.lt_of_le_of_lt (Nat.div_le_self _ _) h2
theorem Bd.mono {k l : Nat} {q : Rat} (h : Bd k q) (hl : k ≤ l) : Bd l q :=
  ⟨Nat.lt_of_lt_of_le h.1 (Nat.pow_le_pow_right (by decide) hl), Nat.lt_of_lt_of_le h.2 (Nat.pow_le_pow_right (by decide) hl)⟩
theorem lt_pow_mul {a b k l : Nat} (h1 : a < 2 ^ k) (h2 : b < 2 ^ l) : a * b < 2 ^ (k + l) := by
  rw [Nat.pow_add]
  exact Nat.mul_lt_mul'' h1 h2
theorem Bd.mo {k : Nat} {q : Rat} (h : Bd k q) (hk : k ≤ 400000) : Mo q.num ∧ Mo (q.den : Int) := by
  have := h.mono hk
  exact ⟨this.1, this.2⟩
theorem Bd.sz {k l : Nat} {p q : Rat} (h1 : Bd k p) (h2 : Bd l q) (hk : k + l ≤ 9000) : Sz p q := by
  refine ⟨(h1.mo (by omega)).1, (h2.mo (by omega)).1, ?_⟩
  unfold Lo
  rw [Int.natAbs_mul]
  exact Nat.lt_of_lt_of_le (lt_pow_mul h1.2 h2.2) (Nat.pow_le_pow_right (by decide) hk)
theorem Bd.add {k l : Nat} {p q : Rat} (h1 : Bd k p) (h2 : Bd l q) : Bd (k + l + 1) (p + q) := by
  rw [← add_div]
  refine divInt_bd (Sz.ne p q) ?_ ?_
  · have a := lt_pow_mul h1.1 h2.2
    have b := lt_pow_mul h2.1 h1.2
    have c := Int.natAbs_add_le (p.num * q.den) (q.num * p.den)
    rw [Int.natAbs_mul, Int.natAbs_mul] at c
    rw [Nat.add_comm l k] at b
    rw [Nat.pow_succ]
    simp only [Int.natAbs_natCast] at c
    omega
  · rw [Int.natAbs_mul]
    exact Nat.lt_of_lt_of_le (lt_pow_mul h1.2 h2.2) (Nat.pow_le_pow_right (by decide) (by omega))
theorem Bd.neg {k : Nat} {p : Rat} (h1 : Bd k p) : Bd k (-p) := by
  constructor
  · simpa using h1.1
  · simpa using h1.2
theorem Bd.sub {k l : Nat} {p q : Rat} (h1 : Bd k p) (h2 : Bd l q) : Bd (k + l + 1) (p - q) := by
  rw [Rat.sub_eq_add_neg]
  exact h1.add h2.neg
theorem Bd.mul {k l : Nat} {p q : Rat} (h1 : Bd k p) (h2 : Bd l q) : Bd (k + l) (p * q) := by
  rw [← mul_div']
  refine divInt_bd (Sz.ne p q) ?_ ?_
  · rw [Int.natAbs_mul]; exact lt_pow_mul h1.1 h2.1
  · rw [Int.natAbs_mul]; exact lt_pow_mul h1.2 h2.2
/-- what a fraction's parts tell -/
theorem cross {a b : Int} {q : Rat} (hb : b ≠ 0) (h : Rat.divInt a b = q) : q.num * b = a * q.den := by
  have e : Rat.divInt q.num q.den = Rat.divInt a b := by rw [h]; exact Rat.num_divInt_den q
  rw [Rat.divInt_eq_divInt_iff (den_ne q) hb] at e
  exact e
end IL
end
section
set_option maxHeartbeats 1000000
namespace IL
open PySem
def fn_is_name : Fn := ⟨1, 2, false,
    (.cons (.iff (.or (.not (.isi (.loc 0) [.str])) (.not (.chn .le .le (.lit (.int 1)) (.blt .len (.cons false (.loc 0) .nil)) (.lit (.int 8))))) (.cons (.ret (.lit (.bl false)))
    .nil) .nil)
    (.cons (.ret (.and (.blt .all (.cons false (.lc [1] (.nm 1) (.seq (.loc 0)) .no (.cmp .isIn (.loc 1) (.glo "LETTERS"))) .nil)) (.cmp .notIn (.loc 0) (.glo "RESERVED"))))
    .nil))⟩
def fn_check_names : Fn := ⟨1, 3, false,
    (.cons (.iff (.or (.not (.isi (.loc 0) [.tuple])) (.not (.chn .le .le (.lit (.int 1)) (.blt .len (.cons false (.loc 0) .nil)) (.glo "MOST_NAMES")))) (.cons (.rais "InvalidNames" (.yes (.neg (.lit (.int 1)))))
    .nil) .nil)
    (.cons (.forr (.cons (.nm 1) (.cons (.nm 2) .nil)) (.enum (.seq (.loc 0))) (.cons (.iff (.or (.not (.call "is_name" (.cons false (.loc 2) .nil))) (.cmp .isIn (.loc 2) (.sl (.loc 0) .no (.yes (.loc 1))))) (.cons (.rais "InvalidNames" (.yes (.loc 1)))
    .nil) .nil)
    .nil))
    .nil))⟩
def fn_list_cases : Fn := ⟨1, 5, false,
    (.cons (.set 1 (.lst (.cons false (.tup .nil) .nil)))
    (.cons (.forr (.nm 2) (.seq (.loc 0)) (.cons (.set 1 (.lc2 [3, 4] [4] (.nm 3) (.seq (.loc 1)) (.nm 4) (.seq (.tup (.cons false (.lit (.bl false)) (.cons false (.lit (.bl true)) .nil)))) (.tup (.cons true (.loc 3) (.cons false (.loc 4) .nil)))))
    .nil))
    (.cons (.ret (.loc 1))
    .nil)))⟩
def fn_cases : Fn := ⟨1, 1, false,
    (.cons (.ex (.call "check_names" (.cons false (.loc 0) .nil)))
    (.cons (.ret (.call "list_cases" (.cons false (.loc 0) .nil)))
    .nil))⟩
def fn_check_case : Fn := ⟨2, 3, false,
    (.cons (.iff (.or (.not (.isi (.loc 1) [.tuple])) (.cmp .ne (.blt .len (.cons false (.loc 1) .nil)) (.blt .len (.cons false (.loc 0) .nil)))) (.cons (.rais "InvalidCase" .no)
    .nil) .nil)
    (.cons (.forr (.nm 2) (.seq (.loc 1)) (.cons (.iff (.not (.isi (.loc 2) [.bool])) (.cons (.rais "InvalidCase" .no)
    .nil) .nil)
    .nil))
    .nil))⟩
def fn_count_nodes : Fn := ⟨3, 7, false,
    (.cons (.set 3 (.bin .add (.glo "MOST_NODES") (.lit (.int 1))))
    (.cons (.iff (.or (.cmp .eq (.loc 2) (.lit (.int 0))) (.or (.not (.isi (.loc 1) [.tuple])) (.cmp .eq (.blt .len (.cons false (.loc 1) .nil)) (.lit (.int 0))))) (.cons (.ret (.loc 3))
    .nil) .nil)
    (.cons (.set 4 (.ix (.loc 1) (.lit (.int 0))))
    (.cons (.iff (.not (.isi (.loc 4) [.str])) (.cons (.ret (.loc 3))
    .nil) .nil)
    (.cons (.iff (.cmp .eq (.blt .len (.cons false (.loc 1) .nil)) (.lit (.int 1))) (.cons (.ret (.ite (.or (.cmp .eq (.loc 4) (.lit (.str "yes"))) (.cmp .eq (.loc 4) (.lit (.str "no")))) (.lit (.int 1)) (.loc 3)))
    .nil) .nil)
    (.cons (.iff (.and (.cmp .eq (.blt .len (.cons false (.loc 1) .nil)) (.lit (.int 2))) (.cmp .eq (.loc 4) (.lit (.str "is")))) (.cons (.set 6 (.and (.call "is_name" (.cons false (.ix (.loc 1) (.lit (.int 1))) .nil)) (.or (.isl false (.loc 0) .non) (.cmp .isIn (.ix (.loc 1) (.lit (.int 1))) (.loc 0)))))
    (.cons (.ret (.ite (.loc 6) (.lit (.int 1)) (.loc 3)))
    .nil)) .nil)
    (.cons (.iff (.and (.cmp .eq (.blt .len (.cons false (.loc 1) .nil)) (.lit (.int 2))) (.cmp .eq (.loc 4) (.lit (.str "not")))) (.cons (.ret (.blt .min2 (.cons false (.loc 3) (.cons false (.bin .add (.lit (.int 1)) (.call "count_nodes" (.cons false (.loc 0) (.cons false (.ix (.loc 1) (.lit (.int 1))) (.cons false (.bin .sub (.loc 2) (.lit (.int 1))) .nil))))) .nil))))
    .nil) .nil)
    (.cons (.iff (.or (.cmp .ne (.blt .len (.cons false (.loc 1) .nil)) (.lit (.int 3))) (.and (.cmp .ne (.loc 4) (.lit (.str "and"))) (.cmp .ne (.loc 4) (.lit (.str "or"))))) (.cons (.ret (.loc 3))
    .nil) .nil)
    (.cons (.set 5 (.call "count_nodes" (.cons false (.loc 0) (.cons false (.ix (.loc 1) (.lit (.int 1))) (.cons false (.bin .sub (.loc 2) (.lit (.int 1))) .nil)))))
    (.cons (.iff (.cmp .ge (.loc 5) (.loc 3)) (.cons (.ret (.loc 3))
    .nil) .nil)
    (.cons (.ret (.blt .min2 (.cons false (.loc 3) (.cons false (.bin .add (.bin .add (.lit (.int 1)) (.loc 5)) (.call "count_nodes" (.cons false (.loc 0) (.cons false (.ix (.loc 1) (.lit (.int 2))) (.cons false (.bin .sub (.loc 2) (.lit (.int 1))) .nil))))) .nil))))
    .nil)))))))))))⟩
def fn_is_formula : Fn := ⟨2, 2, false,
    (.cons (.ret (.cmp .le (.call "count_nodes" (.cons false (.loc 0) (.cons false (.loc 1) (.cons false (.glo "MOST_DEPTH") .nil)))) (.glo "MOST_NODES")))
    .nil)⟩
def fn_check_formula : Fn := ⟨2, 2, false,
    (.cons (.iff (.not (.call "is_formula" (.cons false (.loc 0) (.cons false (.loc 1) .nil)))) (.cons (.rais "InvalidFormula" .no)
    .nil) .nil)
    .nil)⟩
def fn_truth : Fn := ⟨3, 4, false,
    (.cons (.set 3 (.ix (.loc 1) (.lit (.int 0))))
    (.cons (.iff (.or (.cmp .eq (.loc 3) (.lit (.str "yes"))) (.cmp .eq (.loc 3) (.lit (.str "no")))) (.cons (.ret (.cmp .eq (.loc 3) (.lit (.str "yes"))))
    .nil) .nil)
    (.cons (.iff (.cmp .eq (.loc 3) (.lit (.str "is"))) (.cons (.ret (.ix (.loc 2) (.mth .index (.loc 0) (.cons false (.ix (.loc 1) (.lit (.int 1))) .nil))))
    .nil) .nil)
    (.cons (.iff (.cmp .eq (.loc 3) (.lit (.str "not"))) (.cons (.ret (.not (.call "truth" (.cons false (.loc 0) (.cons false (.ix (.loc 1) (.lit (.int 1))) (.cons false (.loc 2) .nil))))))
    .nil) .nil)
    (.cons (.iff (.cmp .eq (.loc 3) (.lit (.str "and"))) (.cons (.ret (.and (.call "truth" (.cons false (.loc 0) (.cons false (.ix (.loc 1) (.lit (.int 1))) (.cons false (.loc 2) .nil)))) (.call "truth" (.cons false (.loc 0) (.cons false (.ix (.loc 1) (.lit (.int 2))) (.cons false (.loc 2) .nil))))))
    .nil) .nil)
    (.cons (.ret (.or (.call "truth" (.cons false (.loc 0) (.cons false (.ix (.loc 1) (.lit (.int 1))) (.cons false (.loc 2) .nil)))) (.call "truth" (.cons false (.loc 0) (.cons false (.ix (.loc 1) (.lit (.int 2))) (.cons false (.loc 2) .nil))))))
    .nil))))))⟩
def fn_holds : Fn := ⟨3, 3, false,
    (.cons (.ex (.call "check_names" (.cons false (.loc 0) .nil)))
    (.cons (.ex (.call "check_formula" (.cons false (.loc 0) (.cons false (.loc 1) .nil))))
    (.cons (.ex (.call "check_case" (.cons false (.loc 0) (.cons false (.loc 2) .nil))))
    (.cons (.ret (.call "truth" (.cons false (.loc 0) (.cons false (.loc 1) (.cons false (.loc 2) .nil)))))
    .nil))))⟩
def g_LETTERS : D := .str "abcdefghijklmnopqrstuvwxyz"
def g_RESERVED : D := .tup [.str "and", .str "or", .str "not", .str "yes", .str "no", .str "is", .str "given", .str "nomore", .str "from", .str "to"]
def g_MOST_NAMES : D := .int 4
def g_MOST_NODES : D := .int 30
def g_MOST_DEPTH : D := .int 12
def tabFm : List (Str × Fn) := [("is_name", fn_is_name), ("check_names", fn_check_names), ("list_cases", fn_list_cases), ("cases", fn_cases), ("check_case", fn_check_case), ("count_nodes", fn_count_nodes), ("is_formula", fn_is_formula), ("check_formula", fn_check_formula), ("truth", fn_truth), ("holds", fn_holds)]
def gloFm : List (Str × D) := [("LETTERS", g_LETTERS), ("RESERVED", g_RESERVED), ("MOST_NAMES", g_MOST_NAMES), ("MOST_NODES", g_MOST_NODES), ("MOST_DEPTH", g_MOST_DEPTH)]
class LibFm (gl : Str → Option D) (T : Str → Option Fn) : Prop where
  e_is_name : T "is_name" = some fn_is_name
  e_check_names : T "check_names" = some fn_check_names
  e_list_cases : T "list_cases" = some fn_list_cases
  e_cases : T "cases" = some fn_cases
  e_check_case : T "check_case" = some fn_check_case
  e_count_nodes : T "count_nodes" = some fn_count_nodes
  e_is_formula : T "is_formula" = some fn_is_formula
  e_check_formula : T "check_formula" = some fn_check_formula
  e_truth : T "truth" = some fn_truth
  e_holds : T "holds" = some fn_holds
  e_LETTERS : gl "LETTERS" = some g_LETTERS
  e_RESERVED : gl "RESERVED" = some g_RESERVED
  e_MOST_NAMES : gl "MOST_NAMES" = some g_MOST_NAMES
  e_MOST_NODES : gl "MOST_NODES" = some g_MOST_NODES
  e_MOST_DEPTH : gl "MOST_DEPTH" = some g_MOST_DEPTH
@[simp] theorem w_yes_no : (Str.ofString "yes" = Str.ofString "no") = False := eq_false (by decide)
@[simp] theorem w_yes_is : (Str.ofString "yes" = Str.ofString "is") = False := eq_false (by decide)
@[simp] theorem w_yes_not : (Str.ofString "yes" = Str.ofString "not") = False := eq_false (by decide)
@[simp] theorem w_yes_and : (Str.ofString "yes" = Str.ofString "and") = False := eq_false (by decide)
@[simp] theorem w_yes_or : (Str.ofString "yes" = Str.ofString "or") = False := eq_false (by decide)
@[simp] theorem w_no_yes : (Str.ofString "no" = Str.ofString "yes") = False := eq_false (by decide)
@[simp] theorem w_no_is : (Str.ofString "no" = Str.ofString "is") = False := eq_false (by decide)
@[simp] theorem w_no_not : (Str.ofString "no" = Str.ofString "not") = False := eq_false (by decide)
@[simp] theorem w_no_and : (Str.ofString "no" = Str.ofString "and") = False := eq_false (by decide)
@[simp] theorem w_no_or : (Str.ofString "no" = Str.ofString "or") = False := eq_false (by decide)
@[simp] theorem w_is_yes : (Str.ofString "is" = Str.ofString "yes") = False := eq_false (by decide)
@[simp] theorem w_is_no : (Str.ofString "is" = Str.ofString "no") = False := eq_false (by decide)
@[simp] theorem w_is_not : (Str.ofString "is" = Str.ofString "not") = False := eq_false (by decide)
@[simp] theorem w_is_and : (Str.ofString "is" = Str.ofString "and") = False := eq_false (by decide)
@[simp] theorem w_is_or : (Str.ofString "is" = Str.ofString "or") = False := eq_false (by decide)
@[simp] theorem w_not_yes : (Str.ofString "not" = Str.ofString "yes") = False := eq_false (by decide)
@[simp] theorem w_not_no : (Str.ofString "not" = Str.ofString "no") = False := eq_false (by decide)
@[simp] theorem w_not_is : (Str.ofString "not" = Str.ofString "is") = False := eq_false (by decide)
@[simp] theorem w_not_and : (Str.ofString "not" = Str.ofString "and") = False := eq_false (by decide)
@[simp] theorem w_not_or : (Str.ofString "not" = Str.ofString "or") = False := eq_false (by decide)
@[simp] theorem w_and_yes : (Str.ofString "and" = Str.ofString "yes") = False := eq_false (by decide)
@[simp] theorem w_and_no : (Str.ofString "and" = Str.ofString "no") = False := eq_false (by decide)
@[simp] theorem w_and_is : (Str.ofString "and" = Str.ofString "is") = False := eq_false (by decide)
@[simp] theorem w_and_not : (Str.ofString "and" = Str.ofString "not") = False := eq_false (by decide)
@[simp] theorem w_and_or : (Str.ofString "and" = Str.ofString "or") = False := eq_false (by decide)
@[simp] theorem w_or_yes : (Str.ofString "or" = Str.ofString "yes") = False := eq_false (by decide)
@[simp] theorem w_or_no : (Str.ofString "or" = Str.ofString "no") = False := eq_false (by decide)
@[simp] theorem w_or_is : (Str.ofString "or" = Str.ofString "is") = False := eq_false (by decide)
@[simp] theorem w_or_not : (Str.ofString "or" = Str.ofString "not") = False := eq_false (by decide)
@[simp] theorem w_or_and : (Str.ofString "or" = Str.ofString "and") = False := eq_false (by decide)
@[simp] theorem eqD_s (x y : Str) : eqD (.str x) (.str y) = some (x == y) := rfl
@[simp] theorem cmp_eq_s (x y : Str) : cmpD .eq (.str x) (.str y) = some (x == y) := rfl
@[simp] theorem cmp_ne_s (x y : Str) : cmpD .ne (.str x) (.str y) = some (!(x == y)) := rfl
section
variable {gl : Str → Option D} {T : Str → Option Fn}
def letS : Str := "abcdefghijklmnopqrstuvwxyz"
def resL : List Str := ["and", "or", "not", "yes", "no", "is", "given", "nomore", "from", "to"]
def letC (c : Nat) : Bool := letS.cps.toList.contains c
def memS (s : Str) (xs : List Str) : Bool := xs.contains s
/-- is the text a name? -/
def isName (s : Str) : Bool := decide (1 ≤ s.length) && decide (s.length ≤ 8) && s.cps.toList.all letC && !(memS s resL)
def isNm : D → Bool
  | .str s => isName s | _ => false
theorem g_LET : g_LETTERS = .str letS := rfl
theorem g_RES : g_RESERVED = .tup (resL.map .str) := rfl
theorem in_let (c : Nat) : cmpD .isIn (.str ⟨#[c]⟩) (.str letS) = some (letC c) := rfl
theorem any_str (s : Str) : ∀ xs : List Str, ((xs.map D.str).any fun y => eqv y (.str s)) = memS s xs
  | [] => rfl
  | x :: xs => by
    rw [List.map_cons, List.any_cons, any_str s xs, show memS s (x :: xs) = (s == x || memS s xs) from List.contains_cons, show eqv (.str x) (.str s) = (x == s) from by simp only [eqv]]
    rw [show (x == s) = (s == x) from by rw [Bool.eq_iff_iff]; simp only [beq_iff_eq]; exact eq_comm]
theorem all_flat : ∀ xs : List Str, (xs.map D.str).all isFlat = true
  | [] => rfl
  | x :: xs => by rw [List.map_cons, List.all_cons, all_flat xs]; rfl
theorem in_strs (s : Str) (xs : List Str) : inD (.str s) (.tup (xs.map D.str)) = some (memS s xs) := by
  show (if isFlat (.str s) && (xs.map D.str).all isFlat then some ((xs.map D.str).any fun y => eqv y (.str s)) else none) = _
  rw [all_flat, any_str]
  rfl
theorem in_res (s : Str) : cmpD .notIn (.str s) g_RESERVED = some (!memS s resL) := by
  show (inD (.str s) g_RESERVED).map (!·) = _
  rw [g_RES, in_strs]; rfl
theorem bools_map {α : Type} (f : α → Bool) : ∀ xs : List α, boolsD (xs.map fun x => .bl (f x)) = some (xs.map f)
  | [] => rfl
  | x :: xs => by simp only [List.map_cons, boolsD, bools_map f xs]; rfl
theorem blt_all {xs : List D} {bs : List Bool} {k : Bool} (h : boolsD xs = some bs) (hk : bs.all id = k) : bltD .all [.lst xs] = some (.bl k, false) := by
  simp only [bltD, h, ← hk]; rfl
theorem run_is_name [Lm : LibFm gl T] {n : Nat} (hn : 1 ≤ n) (d : D) : callN gl T n "is_name" .un [d] = .ret (.bl (isNm d)) false .un := by
  refine c_eq (c_run Lm.e_is_name hn rfl rfl ?_)
  generalize callN gl T (n - 1) = C
  have h1 := Lm.e_LETTERS
  have h2 := Lm.e_RESERVED
  rw [g_LET] at h1
  cases d with
  | str s =>
    by_cases l1 : (1 : Int) ≤ s.length
    · by_cases l2 : (8 : Int) < s.length
      · have : isNm (.str s) = false := by
          simp only [isNm, isName]
          rw [show decide (s.length ≤ 8) = false from decide_eq_false (by omega)]
          simp
        simp -implicitDefEqProofs [fn_is_name, rd, readS, takeS, readF, takeF, two, late, lateO, setS, hasS, hasL, lenOk, Ex.noio, Exs.noio, Oex.noio, retE, wipeS, backS, isTys, isTy, l1, l2, this]
      · refine s_cons ?_
        simp -implicitDefEqProofs [-rSs_cons, fn_is_name, rd, readS, takeS, readF, takeF, two, late, lateO, setS, hasS, hasL, lenOk, Ex.noio, Exs.noio, Oex.noio, retE, wipeS, backS, isTys, isTy, l1, l2]
        refine s_cons ?_
        simp -implicitDefEqProofs [rd, readS, takeS, readF, takeF, two, late, lateO, setS, hasS, hasL, lenOk, Ex.noio, Exs.noio, Oex.noio, retE, wipeS, backS, itemsD]
        have hl : s.cps.toList.length ≤ 8 := by
          have : s.cps.toList.length = s.length := by simp [Str.length]
          omega
        have hb := bools_map letC s.cps.toList
        have hr := in_res s
        have hn : isNm (.str s) = ((s.cps.toList.map letC).all id && !memS s resL) := by
          simp only [isNm, isName, show decide (1 ≤ s.length) = true from decide_eq_true (by omega), show decide (s.length ≤ 8) = true from decide_eq_true (by omega), Bool.true_and, List.all_map]
          rfl
        obtain ⟨I, hI⟩ : ∃ I : List D → List D → Sg → Prop, I = (fun ds acc s' => ∃ xs ys : List Nat, s.cps.toList = xs ++ ys ∧ ds = ys.map (fun c => D.str ⟨#[c]⟩) ∧ acc = xs.map (fun c => D.bl (letC c)) ∧ s' = [.sh (.str s), .un]) := ⟨_, rfl⟩
        refine e_lcI I _ _ _ (by rw [hI]; exact ⟨[], _, rfl, by simp, rfl, rfl⟩) ?_ ?_
        · intro d ds acc s' hs
          rw [hI] at hs
          obtain ⟨xs, ys, e, e2, rfl, rfl⟩ := hs
          cases ys with
          | nil => cases e2
          | cons y ys =>
            cases e2
            have hlen : xs.length < 8 := by rw [e, List.length_append, List.length_cons] at hl; omega
            simp -implicitDefEqProofs [rd, readS, takeS, readF, takeF, two, late, lateO, setS, hasS, hasL, lenOk, Ex.noio, Exs.noio, Oex.noio, retE, wipeS, backS, asg, h1, in_let]
            refine wE_app (by rw [List.length_map]; exact Nat.lt_trans hlen (by decide)) ?_
            rw [hI]
            exact ⟨xs ++ [y], ys, by rw [e]; simp, rfl, by rw [List.map_append]; rfl, rfl⟩
        · intro acc s' hs
          rw [hI] at hs
          obtain ⟨xs, ys, e, e2, rfl, rfl⟩ := hs
          cases ys with
          | cons _ _ => cases e2
          | nil =>
            rw [List.append_nil] at e
            rw [← e]
            cases hk : (s.cps.toList.map letC).all id with
            | true =>
              rw [hk, Bool.true_and] at hn
              simp -implicitDefEqProofs [rd, readS, takeS, readF, takeF, two, late, lateO, setS, hasS, hasL, lenOk, Ex.noio, Exs.noio, Oex.noio, retE, wipeS, backS, blt_all hb hk, h2, hr, hn]
            | false =>
              rw [hk, Bool.false_and] at hn
              simp -implicitDefEqProofs [rd, readS, takeS, readF, takeF, two, late, lateO, setS, hasS, hasL, lenOk, Ex.noio, Exs.noio, Oex.noio, retE, wipeS, backS, blt_all hb hk, h2, hr, hn]
    · have : isNm (.str s) = false := by
        simp only [isNm, isName]
        rw [show decide (1 ≤ s.length) = false from decide_eq_false (by omega)]
        simp
      simp -implicitDefEqProofs [fn_is_name, rd, readS, takeS, readF, takeF, two, late, lateO, setS, hasS, hasL, lenOk, Ex.noio, Exs.noio, Oex.noio, retE, wipeS, backS, isTys, isTy, l1, this]
  | _ => simp -implicitDefEqProofs [fn_is_name, rd, readS, takeS, readF, takeF, two, late, lateO, setS, hasS, hasL, lenOk, Ex.noio, Exs.noio, Oex.noio, retE, wipeS, backS, isTys, isTy, isNm]
/-- where names go wrong: behind prev -/
def badNm : List D → List D → Option Int
  | _, [] => none
  | prev, x :: xs => if !isNm x || prev.any (fun y => eqv y x) then some prev.length else badNm (prev ++ [x]) xs
def badNms : D → Option Int
  | .tup xs => if 1 ≤ xs.length ∧ xs.length ≤ 4 then badNm [] xs else some (-1)
  | _ => some (-1)
/-- what a check that names a place gives -/
def chkR (c : Str) : Option Int → CR
  | none => .ret .non false .un
  | some i => .ex c (some (.int i)) .un
theorem isNm_flat {x : D} (h : isNm x = true) : isFlat x = true := by
  cases x <;> first | rfl | (simp [isNm] at h)
theorem in_prev {x : D} {prev : List D} (h : isNm x = true) (hp : ∀ y ∈ prev, isNm y = true) : inD x (.tup prev) = some (prev.any fun y => eqv y x) := by
  cases x with
  | str s =>
    show (if isFlat (.str s) && prev.all isFlat then some (prev.any fun y => eqv y (.str s)) else none) = _
    rw [show prev.all isFlat = true from List.all_eq_true.mpr fun y hy => isNm_flat (hp y hy)]
    rfl
  | _ => simp [isNm] at h
theorem cut_pre (xs ys : List D) : cut (xs ++ ys) none (some (xs.length : Int)) = xs := by
  unfold cut
  rw [HT.sIx_none, HT.sIx_nat, List.length_append, Nat.min_eq_left (by omega), List.drop_zero, Nat.sub_zero, List.take_left]
theorem run_check_names [Lm : LibFm gl T] {n : Nat} (hn : 2 ≤ n) (d : D) : callN gl T n "check_names" .un [d] = chkR "InvalidNames" (badNms d) := by
  refine c_eq (c_run Lm.e_check_names (by omega) rfl rfl ?_)
  have hi := fun d => run_is_name (gl := gl) (T := T) (n := n - 1) (by omega) d
  generalize callN gl T (n - 1) = C at hi
  have h1 : gl "MOST_NAMES" = some (.int 4) := Lm.e_MOST_NAMES
  cases d with
  | tup xs =>
    by_cases l1 : (1 : Int) ≤ xs.length
    · by_cases l2 : (4 : Int) < xs.length
      · have : badNms (.tup xs) = some (-1) := if_neg (by omega)
        simp -implicitDefEqProofs [fn_check_names, rd, readS, takeS, readF, takeF, two, late, lateO, setS, hasS, hasL, lenOk, Ex.noio, Exs.noio, Oex.noio, retE, wipeS, backS, isTys, isTy, l1, l2, this, h1, chkR]
      · have hb : badNms (.tup xs) = badNm [] xs := if_pos (by omega)
        rw [hb]
        refine s_cons ?_
        simp -implicitDefEqProofs [-rSs_cons, fn_check_names, rd, readS, takeS, readF, takeF, two, late, lateO, setS, hasS, hasL, lenOk, Ex.noio, Exs.noio, Oex.noio, retE, wipeS, backS, isTys, isTy, l1, l2, h1]
        refine s_cons ?_
        simp -implicitDefEqProofs [-rSs_cons, rd, readS, takeS, readF, takeF, two, late, lateO, setS, hasS, hasL, lenOk, Ex.noio, Exs.noio, Oex.noio, retE, wipeS, backS, itemsD]
        obtain ⟨I, hI⟩ : ∃ I : List D → Sg → Prop, I = (fun ds s => ∃ (prev rest : List D) (v w : Slot), xs = prev ++ rest ∧ ds = enumL prev.length rest ∧ (∀ y ∈ prev, isNm y = true) ∧ badNm [] xs = badNm prev rest ∧ v.pinned = false ∧ w.pinned = false ∧ s = [.sh (.tup xs), v, w]) := ⟨_, rfl⟩
        refine s_for I _ _ (by rw [hI]; exact ⟨[], xs, .un, .un, rfl, rfl, by simp, rfl, rfl, rfl, rfl⟩) ?_ ?_
        · intro x ds s hs
          rw [hI] at hs
          obtain ⟨prev, rest, v, w, e1, e2, hp, eb, hv, hw, rfl⟩ := hs
          cases rest with
          | nil => cases e2
          | cons y rest =>
            simp only [enumL, List.cons.injEq] at e2
            obtain ⟨rfl, rfl⟩ := e2
            rw [badNm] at eb
            have hc := cut_pre prev (y :: rest)
            rw [← e1] at hc
            cases hy : isNm y with
            | false =>
              rw [hy] at eb
              simp only [Bool.not_false, Bool.true_or, if_true] at eb
              simp -implicitDefEqProofs [rd, readS, takeS, readF, takeF, two, late, lateO, setS, hasS, hasL, lenOk, Ex.noio, Exs.noio, Oex.noio, retE, wipeS, backS, asg, hv, hw, hi, hy, eb, chkR]
            | true =>
              have hin := in_prev hy hp
              cases ha : prev.any (fun z => eqv z y) with
              | true =>
                simp -implicitDefEqProofs [rd, readS, takeS, readF, takeF, two, late, lateO, setS, hasS, hasL, lenOk, Ex.noio, Exs.noio, Oex.noio, retE, wipeS, backS, asg, hv, hw, hi, hy, eb, chkR, slD, hc, cmpD, hin, ha]
              | false =>
                simp -implicitDefEqProofs [rd, readS, takeS, readF, takeF, two, late, lateO, setS, hasS, hasL, lenOk, Ex.noio, Exs.noio, Oex.noio, retE, wipeS, backS, asg, hv, hw, hi, hy, slD, hc, cmpD, hin, ha]
                rw [hI]
                refine ⟨prev ++ [y], rest, _, _, by rw [e1, List.append_assoc]; rfl, by rw [List.length_append]; rfl, ?_, ?_, rfl, rfl, rfl⟩
                · intro z hz
                  rcases List.mem_append.mp hz with h | h
                  · exact hp z h
                  · rw [List.mem_singleton.mp h]; exact hy
                · rw [eb, hy, ha]; rfl
        · intro s hs
          rw [hI] at hs
          obtain ⟨prev, rest, v, w, e1, e2, hp, eb, hv, hw, rfl⟩ := hs
          cases rest with
          | cons _ _ => cases e2
          | nil =>
            rw [badNm] at eb
            simp -implicitDefEqProofs [rd, readS, takeS, readF, takeF, two, late, lateO, setS, hasS, hasL, lenOk, Ex.noio, Exs.noio, Oex.noio, retE, wipeS, backS, eb, chkR]
    · have : badNms (.tup xs) = some (-1) := if_neg (by omega)
      simp -implicitDefEqProofs [fn_check_names, rd, readS, takeS, readF, takeF, two, late, lateO, setS, hasS, hasL, lenOk, Ex.noio, Exs.noio, Oex.noio, retE, wipeS, backS, isTys, isTy, l1, this, h1, chkR]
  | _ => simp -implicitDefEqProofs [fn_check_names, rd, readS, takeS, readF, takeF, two, late, lateO, setS, hasS, hasL, lenOk, Ex.noio, Exs.noio, Oex.noio, retE, wipeS, backS, isTys, isTy, badNms, chkR]
def csD (c : List Bool) : D := .tup (c.map .bl)
/-- all cases of so many names -/
def csL : Nat → List (List Bool)
  | 0 => [[]]
  | k + 1 => (csL k).flatMap fun c => [c ++ [false], c ++ [true]]
theorem csL_len : ∀ k, (csL k).length = 2 ^ k
  | 0 => rfl
  | k + 1 => by
    have h : ∀ as : List (List Bool), (as.flatMap fun c => [c ++ [false], c ++ [true]]).length = as.length * 2 := fun as => by
      induction as with
      | nil => rfl
      | cons a as ih => rw [List.flatMap_cons, List.length_append, ih, List.length_cons]; simp only [List.length_cons, List.length_nil]; omega
    rw [csL, h, csL_len k, Nat.pow_succ]
/-- names -/
def nsD (ns : List Str) : D := .tup (ns.map .str)
/-- one to four names, each but once -/
structure Nms (ns : List Str) : Prop where
  lo : 1 ≤ ns.length
  hi : ns.length ≤ 4
  nm : ∀ x ∈ ns, isName x = true
  nd : ns.Nodup
theorem badNm_good : ∀ (xs prev : List Str), (∀ x ∈ xs, isName x = true) → (prev ++ xs).Nodup → badNm (prev.map .str) (xs.map .str) = none
  | [], _, _, _ => rfl
  | x :: xs, prev, h, nd => by
    have h1 : isNm (.str x) = true := h x List.mem_cons_self
    have h2 : ((prev.map D.str).any fun y => eqv y (.str x)) = false := by
      rw [any_str]
      unfold memS
      rw [← Bool.not_eq_true, List.contains_iff_mem]
      intro hx
      rw [List.nodup_append] at nd
      exact nd.2.2 x hx x List.mem_cons_self rfl
    have ih := badNm_good xs (prev ++ [x]) (fun y hy => h y (List.mem_cons_of_mem _ hy)) (by rw [List.append_assoc]; exact nd)
    rw [List.map_append] at ih
    rw [List.map_cons, badNm, h1, h2]
    exact ih
theorem Nms.good {ns : List Str} (h : Nms ns) : badNms (nsD ns) = none := by
  have h1 := h.lo
  have h2 := h.hi
  show (if 1 ≤ (ns.map D.str).length ∧ (ns.map D.str).length ≤ 4 then badNm [] (ns.map D.str) else some (-1)) = _
  rw [if_pos (by rw [List.length_map]; omega)]
  exact badNm_good ns [] h.nm (by simpa using h.nd)
inductive Fm where
  | yes | no | is (x : Str) | not (f : Fm) | and (f g : Fm) | or (f g : Fm)
  deriving DecidableEq
def fmD : Fm → D
  | .yes => .tup [.str "yes"]
  | .no => .tup [.str "no"]
  | .is x => .tup [.str "is", .str x]
  | .not f => .tup [.str "not", fmD f]
  | .and f g => .tup [.str "and", fmD f, fmD g]
  | .or f g => .tup [.str "or", fmD f, fmD g]
def Fm.nodes : Fm → Nat
  | .not f => f.nodes + 1
  | .and f g => f.nodes + g.nodes + 1
  | .or f g => f.nodes + g.nodes + 1
  | _ => 1
def Fm.depth : Fm → Nat
  | .not f => f.depth + 1
  | .and f g => max f.depth g.depth + 1
  | .or f g => max f.depth g.depth + 1
  | _ => 1
/-- each name of it stands in ns -/
def Fm.over (ns : List Str) : Fm → Prop
  | .is x => x ∈ ns
  | .not f => f.over ns
  | .and f g => f.over ns ∧ g.over ns
  | .or f g => f.over ns ∧ g.over ns
  | _ => True
theorem run_count [Lm : LibFm gl T] {ns : List Str} (hs : Nms ns) : ∀ (f : Fm) (n d : Nat), d + 1 ≤ n → f.depth ≤ d → f.nodes ≤ 30 → f.over ns → callN gl T n "count_nodes" .un [nsD ns, fmD f, .int d] = .ret (.int f.nodes) false .un := by
  intro f
  have hM : gl "MOST_NODES" = some (.int 30) := Lm.e_MOST_NODES
  induction f with
  | yes =>
    intro n d hn hd hk ho
    refine c_eq (c_run Lm.e_count_nodes (by omega) rfl rfl ?_)
    generalize callN gl T (n - 1) = C
    have hd0 : ¬ (d = 0) := by intro h; subst h; simp [Fm.depth] at hd
    simp -implicitDefEqProofs [fn_count_nodes, rd, readS, takeS, readF, takeF, two, late, lateO, setS, hasS, hasL, lenOk, Ex.noio, Exs.noio, Oex.noio, retE, wipeS, backS, fmD, hM, hd0, isTys, isTy, Fm.nodes]
  | no =>
    intro n d hn hd hk ho
    refine c_eq (c_run Lm.e_count_nodes (by omega) rfl rfl ?_)
    generalize callN gl T (n - 1) = C
    have hd0 : ¬ (d = 0) := by intro h; subst h; simp [Fm.depth] at hd
    simp -implicitDefEqProofs [fn_count_nodes, rd, readS, takeS, readF, takeF, two, late, lateO, setS, hasS, hasL, lenOk, Ex.noio, Exs.noio, Oex.noio, retE, wipeS, backS, fmD, hM, hd0, isTys, isTy, Fm.nodes]
  | is x =>
    intro n d hn hd hk ho
    simp only [Fm.depth] at hd
    refine c_eq (c_run Lm.e_count_nodes (by omega) rfl rfl ?_)
    have hi := run_is_name (gl := gl) (T := T) (n := n - 1) (by omega) (.str x)
    rw [show isNm (.str x) = true from hs.nm x ho] at hi
    generalize callN gl T (n - 1) = C at hi
    have hd0 : ¬ (d = 0) := by intro h; subst h; simp [Fm.depth] at hd
    have hin : cmpD .isIn (.str x) (nsD ns) = some true := by
      show inD (.str x) (nsD ns) = _
      unfold nsD
      rw [in_strs]
      exact congrArg some (List.contains_iff_mem.mpr ho)
    simp -implicitDefEqProofs [fn_count_nodes, rd, readS, takeS, readF, takeF, two, late, lateO, setS, hasS, hasL, lenOk, Ex.noio, Exs.noio, Oex.noio, retE, wipeS, backS, fmD, hM, hd0, isTys, isTy, Fm.nodes, hi, hin]
  | not f ih =>
    intro n d hn hd hk ho
    refine c_eq (c_run Lm.e_count_nodes (by omega) rfl rfl ?_)
    simp only [Fm.depth, Fm.nodes] at hd hk
    have hd0 : ¬ (d = 0) := by omega
    have h1 := ih (n - 1) (d - 1) (by omega) (by omega) (by omega) ho
    rw [show ((d - 1 : Nat) : Int) = (d : Int) - 1 by omega] at h1
    generalize callN gl T (n - 1) = C at h1
    simp -implicitDefEqProofs [fn_count_nodes, rd, readS, takeS, readF, takeF, two, late, lateO, setS, hasS, hasL, lenOk, Ex.noio, Exs.noio, Oex.noio, retE, wipeS, backS, fmD, hM, hd0, isTys, isTy, Fm.nodes, h1]
    rw [if_pos (by omega)]
    omega
  | and f g ihf ihg =>
    intro n d hn hd hk ho
    refine c_eq (c_run Lm.e_count_nodes (by omega) rfl rfl ?_)
    simp only [Fm.depth, Fm.nodes] at hd hk
    have hd0 : ¬ (d = 0) := by omega
    have h1 := ihf (n - 1) (d - 1) (by omega) (by omega) (by omega) ho.1
    have h2 := ihg (n - 1) (d - 1) (by omega) (by omega) (by omega) ho.2
    rw [show ((d - 1 : Nat) : Int) = (d : Int) - 1 by omega] at h1 h2
    generalize callN gl T (n - 1) = C at h1 h2
    have hlt : ¬ (31 : Int) ≤ f.nodes := by omega
    simp -implicitDefEqProofs [fn_count_nodes, rd, readS, takeS, readF, takeF, two, late, lateO, setS, hasS, hasL, lenOk, Ex.noio, Exs.noio, Oex.noio, retE, wipeS, backS, fmD, hM, hd0, isTys, isTy, Fm.nodes, h1, h2, hlt]
    rw [if_pos (by omega)]
    omega
  | or f g ihf ihg =>
    intro n d hn hd hk ho
    refine c_eq (c_run Lm.e_count_nodes (by omega) rfl rfl ?_)
    simp only [Fm.depth, Fm.nodes] at hd hk
    have hd0 : ¬ (d = 0) := by omega
    have h1 := ihf (n - 1) (d - 1) (by omega) (by omega) (by omega) ho.1
    have h2 := ihg (n - 1) (d - 1) (by omega) (by omega) (by omega) ho.2
    rw [show ((d - 1 : Nat) : Int) = (d : Int) - 1 by omega] at h1 h2
    generalize callN gl T (n - 1) = C at h1 h2
    have hlt : ¬ (31 : Int) ≤ f.nodes := by omega
    simp -implicitDefEqProofs [fn_count_nodes, rd, readS, takeS, readF, takeF, two, late, lateO, setS, hasS, hasL, lenOk, Ex.noio, Exs.noio, Oex.noio, retE, wipeS, backS, fmD, hM, hd0, isTys, isTy, Fm.nodes, h1, h2, hlt]
    rw [if_pos (by omega)]
    omega
/-- a formula that the program takes over ns -/
structure FmOk (ns : List Str) (f : Fm) : Prop where
  nd : f.nodes ≤ 30
  dp : f.depth ≤ 12
  ov : f.over ns
theorem run_is_formula [Lm : LibFm gl T] {n : Nat} (hn : 14 ≤ n) {ns : List Str} (hs : Nms ns) {f : Fm} (h : FmOk ns f) : callN gl T n "is_formula" .un [nsD ns, fmD f] = .ret (.bl true) false .un := by
  refine c_eq (c_run Lm.e_is_formula (by omega) rfl rfl ?_)
  have hc := run_count (gl := gl) (T := T) hs f (n - 1) 12 (by omega) h.dp h.nd h.ov
  generalize callN gl T (n - 1) = C at hc
  have h1 : gl "MOST_NODES" = some (.int 30) := Lm.e_MOST_NODES
  have h2 : gl "MOST_DEPTH" = some (.int 12) := Lm.e_MOST_DEPTH
  have h3 : (f.nodes : Int) ≤ 30 := by have := h.nd; omega
  rw [show ((12 : Nat) : Int) = 12 from rfl] at hc
  simp -implicitDefEqProofs [fn_is_formula, rd, readS, takeS, readF, takeF, two, late, lateO, setS, hasS, hasL, lenOk, Ex.noio, Exs.noio, Oex.noio, retE, wipeS, backS, h1, h2, hc, h3]
theorem run_check_formula [Lm : LibFm gl T] {n : Nat} (hn : 15 ≤ n) {ns : List Str} (hs : Nms ns) {f : Fm} (h : FmOk ns f) : callN gl T n "check_formula" .un [nsD ns, fmD f] = .ret .non false .un := by
  refine c_eq (c_run Lm.e_check_formula (by omega) rfl rfl ?_)
  have hc := run_is_formula (gl := gl) (T := T) (n := n - 1) (by omega) hs h
  generalize callN gl T (n - 1) = C at hc
  simp -implicitDefEqProofs [fn_check_formula, rd, readS, takeS, readF, takeF, two, late, lateO, setS, hasS, hasL, lenOk, Ex.noio, Exs.noio, Oex.noio, retE, wipeS, backS, hc]
/-- the place of a name -/
def plc (x : Str) : List Str → Nat
  | [] => 0
  | y :: ys => if y = x then 0 else plc x ys + 1
def Fm.ev (ns : List Str) (c : List Bool) : Fm → Bool
  | .yes => true
  | .no => false
  | .is x => c.getD (plc x ns) false
  | .not f => !f.ev ns c
  | .and f g => f.ev ns c && g.ev ns c
  | .or f g => f.ev ns c || g.ev ns c
theorem plc_lt {x : Str} : ∀ {ns : List Str}, x ∈ ns → plc x ns < ns.length
  | [], h => nomatch h
  | y :: ys, h => by
    rw [plc, List.length_cons]
    by_cases e : y = x
    · rw [if_pos e]; omega
    · rw [if_neg e]
      have := plc_lt (ns := ys) ((List.mem_cons.mp h).resolve_left fun e2 => e e2.symm)
      omega
theorem firstAt_plc {x : Str} : ∀ {ns : List Str}, x ∈ ns → firstAt x (ns.map .str) = some (plc x ns)
  | [], h => nomatch h
  | y :: ys, h => by
    rw [List.map_cons, plc]
    by_cases e : y = x
    · rw [if_pos e]
      subst e
      simp [firstAt]
    · rw [if_neg e]
      have := firstAt_plc (ns := ys) ((List.mem_cons.mp h).resolve_left fun e2 => e e2.symm)
      simp [firstAt, e, this]
theorem allStr_map : ∀ ns : List Str, allStr (ns.map .str) = true
  | [] => rfl
  | x :: xs => by rw [List.map_cons]; simp [allStr, allStr_map xs]
theorem mth_index {x : Str} {ns : List Str} (h : x ∈ ns) : mthD .index (nsD ns) [.str x] = some (.int (plc x ns : Nat)) := by
  show (if allStr (ns.map D.str) then (firstAt x (ns.map D.str)).map fun (n : Nat) => D.int (n : Int) else none) = _
  rw [allStr_map, firstAt_plc h]; rfl
end
end IL
end
section
set_option maxHeartbeats 1000000
namespace IL
open PySem
def fn__law_names : Fn := ⟨2, 9, true,
    (.cons (.set 2 (.lit (.str "abcdefghijklmnopqrstuvwxyz")))
    (.cons (.set 3 (.lst (.cons false (.lit (.str "and")) (.cons false (.lit (.str "or")) (.cons false (.lit (.str "not")) (.cons false (.lit (.str "yes")) (.cons false (.lit (.str "no")) (.cons false (.lit (.str "is")) (.cons false (.lit (.str "given")) (.cons false (.lit (.str "nomore")) (.cons false (.lit (.str "from")) (.cons false (.lit (.str "to")) .nil))))))))))))
    (.cons (.set 4 (.lst .nil))
    (.cons (.forr (.nm 5) (.rng (.bin .add (.lit (.int 1)) (.cio "_law_draw" 0 (.cons false (.loc 1) .nil)))) (.cons (.set 6 (.lit (.str "")))
    (.cons (.forr (.nm 7) (.rng (.bin .add (.lit (.int 1)) (.cio "_law_draw" 0 (.cons false (.lit (.int 8)) .nil)))) (.cons (.set 6 (.bin .add (.loc 6) (.ix (.loc 2) (.cio "_law_draw" 0 (.cons false (.lit (.int 26)) .nil)))))
    .nil))
    (.cons (.iff (.or (.cmp .isIn (.loc 6) (.loc 4)) (.cmp .isIn (.loc 6) (.loc 3))) (.cons (.forr (.nm 8) (.seq (.lst (.cons false (.lit (.str "qa")) (.cons false (.lit (.str "qb")) (.cons false (.lit (.str "qc")) (.cons false (.lit (.str "qd")) (.cons false (.lit (.str "qe")) .nil))))))) (.cons (.iff (.cmp .notIn (.loc 8) (.loc 4)) (.cons (.set 6 (.loc 8))
    .nil) .nil)
    .nil))
    .nil) .nil)
    (.cons (.app 4 (.loc 6))
    .nil)))))
    (.cons (.ret (.blt .tuple (.cons false (.loc 4) .nil)))
    .nil)))))⟩
def fn__law_leaf : Fn := ⟨2, 3, true,
    (.cons (.set 2 (.cio "_law_draw" 0 (.cons false (.bin .add (.bin .mul (.lit (.int 3)) (.blt .len (.cons false (.loc 1) .nil))) (.lit (.int 2))) .nil)))
    (.cons (.iff (.cmp .eq (.loc 2) (.lit (.int 0))) (.cons (.ret (.tup (.cons false (.lit (.str "yes")) .nil)))
    .nil) .nil)
    (.cons (.iff (.cmp .eq (.loc 2) (.lit (.int 1))) (.cons (.ret (.tup (.cons false (.lit (.str "no")) .nil)))
    .nil) .nil)
    (.cons (.ret (.tup (.cons false (.lit (.str "is")) (.cons false (.ix (.loc 1) (.bin .mod (.loc 2) (.blt .len (.cons false (.loc 1) .nil)))) .nil))))
    .nil))))⟩
def fn__law_true : Fn := ⟨3, 5, false,
    (.cons (.iff (.cmp .eq (.ix (.loc 1) (.lit (.int 0))) (.lit (.str "yes"))) (.cons (.ret (.lit (.bl true)))
    .nil) .nil)
    (.cons (.iff (.cmp .eq (.ix (.loc 1) (.lit (.int 0))) (.lit (.str "no"))) (.cons (.ret (.lit (.bl false)))
    .nil) .nil)
    (.cons (.iff (.cmp .eq (.ix (.loc 1) (.lit (.int 0))) (.lit (.str "is"))) (.cons (.ret (.ix (.loc 2) (.mth .index (.loc 0) (.cons false (.ix (.loc 1) (.lit (.int 1))) .nil))))
    .nil) .nil)
    (.cons (.set 3 (.call "_law_true" (.cons false (.loc 0) (.cons false (.ix (.loc 1) (.lit (.int 1))) (.cons false (.loc 2) .nil)))))
    (.cons (.iff (.cmp .eq (.ix (.loc 1) (.lit (.int 0))) (.lit (.str "not"))) (.cons (.ret (.not (.loc 3)))
    .nil) .nil)
    (.cons (.set 4 (.call "_law_true" (.cons false (.loc 0) (.cons false (.ix (.loc 1) (.lit (.int 2))) (.cons false (.loc 2) .nil)))))
    (.cons (.iff (.cmp .eq (.ix (.loc 1) (.lit (.int 0))) (.lit (.str "and"))) (.cons (.ret (.and (.loc 3) (.loc 4)))
    .nil) .nil)
    (.cons (.ret (.or (.loc 3) (.loc 4)))
    .nil))))))))⟩
def tabLn : List (Str × Fn) := [("_law_names", fn__law_names), ("_law_leaf", fn__law_leaf), ("_law_true", fn__law_true)]
class LibLn (gl : Str → Option D) (T : Str → Option Fn) : Prop where
  e__law_names : T "_law_names" = some fn__law_names
  e__law_leaf : T "_law_leaf" = some fn__law_leaf
  e__law_true : T "_law_true" = some fn__law_true
theorem lo_of {m : Int} (h : m.natAbs < 2 ^ 200) : Lo m := Nat.lt_trans h (Nat.pow_lt_pow_right (by decide) (by decide))
theorem mo_of {i : Int} {k : Nat} (h : i.natAbs < 2 ^ k) (hk : k ≤ 400000) : Mo i := Nat.lt_of_lt_of_le h (Nat.pow_le_pow_right (by decide) hk)
theorem atK {xs : List D} {k : Int} {d : D} (k0 : 0 ≤ k) (h : xs[k.toNat]? = some d) : L2.atI xs k = some d := by
  have := at_nat xs k.toNat
  rw [show ((k.toNat : Nat) : Int) = k by omega] at this
  rw [this, h]
theorem rngL_get {m i : Nat} {x : D} (h : (rngL 0 (m : Int))[i]? = some x) : x = .int i ∧ i < m := by
  unfold rngL at h
  rw [List.getElem?_map] at h
  cases hr : (List.range ((m : Int) - 0).toNat)[i]? with
  | none => rw [hr] at h; cases h
  | some j =>
    rw [hr] at h
    obtain ⟨h1, h2⟩ := List.getElem?_eq_some_iff.mp hr
    rw [List.getElem_range] at h2
    rw [List.length_range] at h1
    subst h2
    simp at h
    exact ⟨h.symm, by omega⟩
theorem rngL_len' (m : Nat) : (rngL 0 (m : Int)).length = m := by unfold rngL; simp
theorem rngD_nat {m : Nat} (h : m ≤ 1000000) : rngD 0 (m : Int) = some (rngL 0 (m : Int)) := rngD_ok (by omega) (by omega) (by omega) (by omega) (by omega)
/-- items of a range: integers, so many -/
theorem rng_some {c : Int} (h0 : 0 ≤ c) (h1 : c ≤ 1000000) : ∃ L : List D, rngD 0 c = some L ∧ (L.length : Int) = c ∧ ∀ (i : Nat) (x : D), L[i]? = some x → x = .int i := by
  obtain ⟨m, rfl⟩ : ∃ m : Nat, c = m := ⟨c.toNat, by omega⟩
  exact ⟨_, rngD_nat (by omega), by rw [rngL_len'], fun i x h => (rngL_get h).1⟩
@[simp] theorem b_lenN (ns : List Str) : bltD .len [nsD ns] = some (.int ns.length, false) := by
  show some (D.int ((ns.map D.str).length : Nat), false) = _
  rw [List.length_map]
theorem ix_ns {ns : List Str} {k : Int} (h0 : 0 ≤ k) (h : k < ns.length) : ∃ x ∈ ns, ixD (nsD ns) (.int k) = some (.str x) := by
  have hk : k.toNat < ns.length := by omega
  refine ⟨ns[k.toNat], List.getElem_mem hk, ?_⟩
  exact atK h0 (by rw [List.getElem?_map, List.getElem?_eq_getElem hk]; rfl)
section
variable {gl : Str → Option D} {T : Str → Option Fn}
theorem c_drw [Ld : LibDraw gl T] {n : Nat} (hn : 2 ≤ n) {p : Bool} {xs : List D} {t : Nat} (hp : Pl t xs) (ht : t ≤ 100000000000000) {m : Int} (m0 : 0 < m) (m1 : m.natAbs < 2 ^ 200) {Q : D → Bool → Slot → Prop} {X : Str → Option D → Slot → Prop}
    (k : ∀ r xs', 0 ≤ r → r < m → Pl (t + 1) xs' → Q (.int r) false (.ow p xs')) : wC (callN gl T n "_law_draw" (.ow p xs) [.int m]) Q X := c_draw hn hp ht m0 (lo_of m1) k
/-- a formula over ns, so large at most -/
structure FmB (ns : List Str) (k d : Nat) (f : Fm) : Prop where
  nd : f.nodes ≤ k
  dp : f.depth ≤ d
  ov : f.over ns
theorem FmB.ok {ns : List Str} {k d : Nat} {f : Fm} (h : FmB ns k d f) (hk : k ≤ 30) (hd : d ≤ 12) : FmOk ns f := ⟨Nat.le_trans h.nd hk, Nat.le_trans h.dp hd, h.ov⟩
theorem FmB.mono {ns : List Str} {k d k' d' : Nat} {f : Fm} (h : FmB ns k d f) (hk : k ≤ k') (hd : d ≤ d') : FmB ns k' d' f := ⟨Nat.le_trans h.nd hk, Nat.le_trans h.dp hd, h.ov⟩
theorem FmB.not {ns : List Str} {k d : Nat} {f : Fm} (h : FmB ns k d f) : FmB ns (k + 1) (d + 1) f.not := ⟨Nat.succ_le_succ h.nd, Nat.succ_le_succ h.dp, h.ov⟩
theorem FmB.and {ns : List Str} {k d k' d' : Nat} {f g : Fm} (h : FmB ns k d f) (h' : FmB ns k' d' g) : FmB ns (k + k' + 1) (max d d' + 1) (f.and g) := ⟨by have := h.nd; have := h'.nd; simp only [Fm.nodes]; omega, by have := h.dp; have := h'.dp; simp only [Fm.depth]; omega, h.ov, h'.ov⟩
theorem FmB.or {ns : List Str} {k d k' d' : Nat} {f g : Fm} (h : FmB ns k d f) (h' : FmB ns k' d' g) : FmB ns (k + k' + 1) (max d d' + 1) (f.or g) := ⟨by have := h.nd; have := h'.nd; simp only [Fm.nodes]; omega, by have := h.dp; have := h'.dp; simp only [Fm.depth]; omega, h.ov, h'.ov⟩
theorem c_leaf [Lk : LibLn gl T] [Ld : LibDraw gl T] {n : Nat} (hn : 3 ≤ n) {p : Bool} {xs : List D} {t : Nat} {ns : List Str} (h1 : 1 ≤ ns.length) (h4 : ns.length ≤ 4) (hp : Pl t xs) (ht : t ≤ 1000000) {Q : D → Bool → Slot → Prop} {X : Str → Option D → Slot → Prop}
    (k : ∀ f xs', FmB ns 1 1 f → Pl (t + 1) xs' → Q (fmD f) false (.ow p xs')) : wC (callN gl T n "_law_leaf" (.ow p xs) [nsD ns]) Q X := by
  refine c_io Lk.e__law_leaf (by omega) rfl rfl ?_
  have hd := fun {xs : List D} {t : Nat} (hp : Pl t xs) (ht : t ≤ 100000000000000) {m : Int} (m0 : 0 < m) (m1 : m.natAbs < 2 ^ 200) {p Q X} => c_drw (gl := gl) (T := T) (n := n - 1) (by omega) (p := p) hp ht m0 m1 (Q := Q) (X := X)
  generalize callN gl T (n - 1) = C at hd
  unfold fn__law_leaf
  have m3 : mulOk 3 (ns.length : Int) = true := Mo.mul (mo_of (k := 10) (by decide) (by decide)) (mo_of (k := 10) (by omega) (by decide))
  have hz : ¬ (ns = []) := by intro h; subst h; simp at h1
  refine s_cons ?_
  simp -implicitDefEqProofs [-rSs_cons, rd, readS, takeS, readF, takeF, two, late, lateO, setS, hasS, hasL, lenOk, Ex.noio, Exs.noio, Oex.noio, retE, wipeS, backS, m3]
  refine hd hp (by omega) (by omega) (by omega) fun r xs1 r0 r1 p1 => ?_
  by_cases e0 : r = 0
  · subst e0
    simp -implicitDefEqProofs [rd, readS, takeS, readF, takeF, two, late, lateO, setS, hasS, hasL, lenOk, Ex.noio, Exs.noio, Oex.noio, retE, wipeS, backS, limN]
    exact k .yes _ ⟨Nat.le_refl _, Nat.le_refl _, trivial⟩ p1
  by_cases e1 : r = 1
  · subst e1
    simp -implicitDefEqProofs [rd, readS, takeS, readF, takeF, two, late, lateO, setS, hasS, hasL, lenOk, Ex.noio, Exs.noio, Oex.noio, retE, wipeS, backS, limN]
    exact k .no _ ⟨Nat.le_refl _, Nat.le_refl _, trivial⟩ p1
  obtain ⟨x, hx, ex⟩ := ix_ns (ns := ns) (k := r.fmod ns.length) (Int.fmod_nonneg_of_pos _ (by omega)) (Int.fmod_lt_of_pos _ (by omega))
  simp -implicitDefEqProofs [rd, readS, takeS, readF, takeF, two, late, lateO, setS, hasS, hasL, lenOk, Ex.noio, Exs.noio, Oex.noio, retE, wipeS, backS, limN, e0, e1, hz, ex]
  exact k (.is x) _ ⟨Nat.le_refl _, Nat.le_refl _, hx⟩ p1
theorem in_lstr (s : Str) (xs : List Str) : inD (.str s) (.lst (xs.map D.str)) = some (memS s xs) := by
  show (if isFlat (.str s) && (xs.map D.str).all isFlat then some ((xs.map D.str).any fun y => eqv y (.str s)) else _) = _
  rw [all_flat, any_str]
  rfl
theorem cmp_in (s : Str) (xs : List Str) : cmpD .isIn (.str s) (.lst (xs.map D.str)) = some (memS s xs) := in_lstr s xs
theorem cmp_nin (s : Str) (xs : List Str) : cmpD .notIn (.str s) (.lst (xs.map D.str)) = some (!memS s xs) := by
  show (inD (.str s) (.lst (xs.map D.str))).map (!·) = _
  rw [in_lstr]; rfl
theorem nodup_le : ∀ (l m : List Str), l.Nodup → (∀ x ∈ l, x ∈ m) → l.length ≤ m.length
  | [], _, _, _ => by simp
  | x :: l, m, nd, h => by
    rw [List.nodup_cons] at nd
    have hx := h x List.mem_cons_self
    have := nodup_le l (m.erase x) nd.2 fun y hy => (List.mem_erase_of_ne (by rintro rfl; exact nd.1 hy)).mpr (h y (List.mem_cons_of_mem _ hy))
    rw [List.length_erase_of_mem hx] at this
    have : 0 < m.length := List.length_pos_of_mem hx
    rw [List.length_cons]; omega
def spareL : List Str := ["qa", "qb", "qc", "qd", "qe"]
theorem spare_nm : ∀ x ∈ spareL, isName x = true := by decide
theorem spare_nd : spareL.Nodup := by decide
theorem spare_free {ys : List Str} (h : ys.length ≤ 3) : ∃ z ∈ spareL, z ∉ ys := by
  apply Classical.byContradiction
  intro hn
  have := nodup_le spareL ys spare_nd fun x hx => Classical.byContradiction fun e => hn ⟨x, hx, e⟩
  simp [spareL] at this
  omega
theorem let_at {r : Int} (h0 : 0 ≤ r) (h1 : r < 26) : ∃ c : Nat, letC c = true ∧ ixD (.str letS) (.int r) = some (.str ⟨#[c]⟩) := by
  have hl : letS.cps.toList.length = 26 := by decide
  have hk : r.toNat < letS.cps.toList.length := by omega
  refine ⟨letS.cps.toList[r.toNat], List.contains_iff_mem.mpr (List.getElem_mem hk), ?_⟩
  show (L2.atI letS.cps.toList r).map _ = _
  have := at_nat letS.cps.toList r.toNat
  rw [show ((r.toNat : Nat) : Int) = r by omega] at this
  rw [this, List.getElem?_eq_getElem hk]; rfl
/-- a text of so many letters -/
structure Lets (k : Nat) (s : Str) : Prop where
  len : s.length = k
  al : ∀ c ∈ s.cps.toList, letC c = true
theorem Lets.add {k : Nat} {s : Str} {c : Nat} (h : Lets k s) (hc : letC c = true) : Lets (k + 1) (s ++ (⟨#[c]⟩ : Str)) := by
  constructor
  · show (s.cps ++ #[c]).size = _
    rw [Array.size_append, ← h.len]; rfl
  · intro x hx
    have : (s ++ (⟨#[c]⟩ : Str)).cps.toList = s.cps.toList ++ [c] := by
      show (s.cps ++ #[c]).toList = _
      rw [Array.toList_append]
    rw [this] at hx
    rcases List.mem_append.mp hx with h1 | h1
    · exact h.al x h1
    · rw [List.mem_singleton.mp h1]; exact hc
theorem Lets.name {k : Nat} {s : Str} (h : Lets k s) (h1 : 1 ≤ k) (h8 : k ≤ 8) (hr : memS s resL = false) : isName s = true := by
  unfold isName
  rw [h.len, hr, show decide (1 ≤ k) = true from decide_eq_true h1, show decide (k ≤ 8) = true from decide_eq_true h8, List.all_eq_true.mpr h.al]
  rfl
theorem bin_str {s u : Str} (h : s.length + u.length ≤ 100) : binD .add (.str s) (.str u) = some (.str (s ++ u), false) := by
  show (if s.length + u.length ≤ limN then some (D.str (s ++ u), false) else none) = _
  rw [if_pos (Nat.le_trans h (by decide))]
theorem c_names [Lk : LibLn gl T] [Ld : LibDraw gl T] {n : Nat} (hn : 3 ≤ n) {p : Bool} {xs : List D} {t : Nat} (hp : Pl t xs) (ht : t ≤ 90000) {m : Int} (m1 : 1 ≤ m) (m2 : m ≤ 4) {Q : D → Bool → Slot → Prop} {X : Str → Option D → Slot → Prop}
    (k : ∀ ns xs', Nms ns → (ns.length : Int) ≤ m → Pl (t + 37) xs' → Q (nsD ns) false (.ow p xs')) : wC (callN gl T n "_law_names" (.ow p xs) [.int m]) Q X := by
  refine c_io Lk.e__law_names (by omega) rfl rfl ?_
  have hd := fun {xs : List D} {t : Nat} (hp : Pl t xs) (ht : t ≤ 100000000000000) {m : Int} (m0 : 0 < m) (m1 : m.natAbs < 2 ^ 200) {p Q X} => c_drw (gl := gl) (T := T) (n := n - 1) (by omega) (p := p) hp ht m0 m1 (Q := Q) (X := X)
  generalize callN gl T (n - 1) = C at hd
  unfold fn__law_names
  refine s_cons ?_
  simp -implicitDefEqProofs [-rSs_cons, rd, readS, takeS, readF, takeF, two, late, lateO, setS, hasS, hasL, lenOk, Ex.noio, Exs.noio, Oex.noio, retE, wipeS, backS]
  rw [show Str.ofString "abcdefghijklmnopqrstuvwxyz" = letS from rfl]
  refine s_cons ?_
  simp -implicitDefEqProofs [-rSs_cons, rd, readS, takeS, readF, takeF, two, late, lateO, setS, hasS, hasL, lenOk, Ex.noio, Exs.noio, Oex.noio, retE, wipeS, backS, limN]
  rw [show [D.str (Str.ofString "and"), D.str (Str.ofString "or"), D.str (Str.ofString "not"), D.str (Str.ofString "yes"), D.str (Str.ofString "no"), D.str (Str.ofString "is"), D.str (Str.ofString "given"), D.str (Str.ofString "nomore"), D.str (Str.ofString "from"), D.str (Str.ofString "to")] = resL.map D.str from rfl]
  refine s_cons ?_
  simp -implicitDefEqProofs [-rSs_cons, rd, readS, takeS, readF, takeF, two, late, lateO, setS, hasS, hasL, lenOk, Ex.noio, Exs.noio, Oex.noio, retE, wipeS, backS, limN]
  obtain ⟨I0, hI0⟩ : ∃ I : Sg → Prop, I = (fun s => ∃ (ys : List Str) (xs : List D) (v w x y : Slot), Nms ys ∧ (ys.length : Int) ≤ m ∧ Pl (t + 37) xs ∧ s = [.ow true xs, .sh (.int m), .sh (.str letS), .ow false (resL.map .str), .ow false (ys.map .str), v, w, x, y]) := ⟨_, rfl⟩
  refine s_cut I0 ?_ ?_
  rotate_left
  · intro s hs
    rw [hI0] at hs
    obtain ⟨ys, xs, v, w, x, y, hy, hl, hp, rfl⟩ := hs
    simp -implicitDefEqProofs [rd, readS, takeS, readF, takeF, two, late, lateO, setS, hasS, hasL, lenOk, Ex.noio, Exs.noio, Oex.noio, retE, wipeS, backS]
    exact k ys _ hy hl hp
  simp -implicitDefEqProofs [-rSs_cons, rd, readS, takeS, readF, takeF, two, late, lateO, setS, hasS, hasL, lenOk, Ex.noio, Exs.noio, Oex.noio, retE, wipeS, backS]
  refine hd hp (by omega) (by omega) (by omega) fun c xs1 c0 c1 p1 => ?_
  obtain ⟨L, hL, hlen, hit⟩ := rng_some (c := 1 + c) (by omega) (by omega)
  simp -implicitDefEqProofs [-rSs_cons, rd, readS, takeS, readF, takeF, two, late, lateO, setS, hasS, hasL, lenOk, Ex.noio, Exs.noio, Oex.noio, retE, wipeS, backS, hL]
  obtain ⟨I, hI⟩ : ∃ I : Nat → Sg → Prop, I = (fun i s => ∃ (ys : List Str) (xs : List D) (v w x y : Slot), v.pinned = false ∧ w.pinned = false ∧ x.pinned = false ∧ y.pinned = false ∧ ys.length = i ∧ (∀ z ∈ ys, isName z = true) ∧ ys.Nodup ∧ i ≤ L.length ∧ Pl (t + 1 + 9 * i) xs ∧ s = [.ow true xs, .sh (.int m), .sh (.str letS), .ow false (resL.map .str), .ow false (ys.map .str), v, w, x, y]) := ⟨_, rfl⟩
  refine s_loop I _ 0 _ (by rw [hI]; exact ⟨[], _, .un, .un, .un, .un, rfl, rfl, rfl, rfl, rfl, by simp, List.nodup_nil, by omega, p1.mono (by omega), rfl⟩) ?_ ?_
  rotate_left
  · intro s hs
    rw [hI, Nat.zero_add] at hs
    obtain ⟨ys, xs, v, w, x, y, hv, hw, hx, hy, el, hnm, hnd, _, hp, rfl⟩ := hs
    rw [hI0]
    exact ⟨ys, xs, v, w, x, y, ⟨by omega, by omega, hnm, hnd⟩, by omega, hp.mono (by omega), rfl⟩
  intro i d s hx1 hs
  have hi := (List.getElem?_eq_some_iff.mp hx1).1
  obtain rfl := hit i d hx1
  rw [hI, Nat.zero_add] at hs
  obtain ⟨ys, xs, v, w, x, y, hv, hw, hx, hy, el, hnm, hnd, _, hp, rfl⟩ := hs
  simp -implicitDefEqProofs [-rSs_cons, rd, readS, takeS, readF, takeF, two, late, lateO, setS, hasS, hasL, lenOk, Ex.noio, Exs.noio, Oex.noio, retE, wipeS, backS, asg, hv]
  refine s_cons ?_
  simp -implicitDefEqProofs [-rSs_cons, rd, readS, takeS, readF, takeF, two, late, lateO, setS, hasS, hasL, lenOk, Ex.noio, Exs.noio, Oex.noio, retE, wipeS, backS, hw]
  -- the letters
  obtain ⟨J0, hJ0⟩ : ∃ J : Sg → Prop, J = (fun s => ∃ (z : Str) (k : Nat) (xs : List D) (x : Slot), x.pinned = false ∧ Lets k z ∧ 1 ≤ k ∧ k ≤ 8 ∧ Pl (t + 1 + 9 * (i + 1)) xs ∧ s = [.ow true xs, .sh (.int m), .sh (.str letS), .ow false (resL.map .str), .ow false (ys.map .str), .sh (.int i), .sh (.str z), x, y]) := ⟨_, rfl⟩
  refine s_cut J0 ?_ ?_
  · simp -implicitDefEqProofs [-rSs_cons, rd, readS, takeS, readF, takeF, two, late, lateO, setS, hasS, hasL, lenOk, Ex.noio, Exs.noio, Oex.noio, retE, wipeS, backS]
    refine hd hp (by omega) (by omega) (by omega) fun c xs1 c0 c1 p1 => ?_
    obtain ⟨L, hL, hlen, hit⟩ := rng_some (c := 1 + c) (by omega) (by omega)
    simp -implicitDefEqProofs [-rSs_cons, rd, readS, takeS, readF, takeF, two, late, lateO, setS, hasS, hasL, lenOk, Ex.noio, Exs.noio, Oex.noio, retE, wipeS, backS, hL]
    obtain ⟨J, hJ⟩ : ∃ J : Nat → Sg → Prop, J = (fun j s => ∃ (z : Str) (xs : List D) (x : Slot), x.pinned = false ∧ Lets j z ∧ j ≤ L.length ∧ Pl (t + 1 + 9 * i + 1 + j) xs ∧ s = [.ow true xs, .sh (.int m), .sh (.str letS), .ow false (resL.map .str), .ow false (ys.map .str), .sh (.int i), .sh (.str z), x, y]) := ⟨_, rfl⟩
    refine s_loop J _ 0 _ (by rw [hJ]; exact ⟨"", _, x, hx, ⟨by decide, by decide⟩, by omega, p1, rfl⟩) ?_ ?_
    · intro j d s hx1 hs
      have hj := (List.getElem?_eq_some_iff.mp hx1).1
      obtain rfl := hit j d hx1
      rw [hJ, Nat.zero_add] at hs
      obtain ⟨z, xs, x, hx, hz, _, hp, rfl⟩ := hs
      simp -implicitDefEqProofs [rd, readS, takeS, readF, takeF, two, late, lateO, setS, hasS, hasL, lenOk, Ex.noio, Exs.noio, Oex.noio, retE, wipeS, backS, asg, hx]
      refine hd hp (by omega) (by omega) (by omega) fun r xs1 r0 r1 p1 => ?_
      obtain ⟨c, hc, ec⟩ := let_at r0 r1
      have hb := bin_str (s := z) (u := ⟨#[c]⟩) (by rw [hz.len]; show j + 1 ≤ 100; omega)
      simp -implicitDefEqProofs [rd, readS, takeS, readF, takeF, two, late, lateO, setS, hasS, hasL, lenOk, Ex.noio, Exs.noio, Oex.noio, retE, wipeS, backS, ec, hb]
      rw [hJ]
      exact ⟨_, _, _, rfl, hz.add hc, by omega, p1, rfl⟩
    · intro s hs
      rw [hJ, Nat.zero_add] at hs
      obtain ⟨z, xs, x, hx, hz, _, hp, rfl⟩ := hs
      rw [hJ0]
      exact ⟨z, _, xs, x, hx, hz, by omega, by omega, hp.mono (by omega), rfl⟩
  intro s hs
  rw [hJ0] at hs
  obtain ⟨z, k', xs, x, hx, hz, k1, k8, hp, rfl⟩ := hs
  -- a name that none bears yet
  obtain ⟨K0, hK0⟩ : ∃ J : Sg → Prop, J = (fun s => ∃ (z : Str) (y : Slot), y.pinned = false ∧ isName z = true ∧ z ∉ ys ∧ s = [.ow true xs, .sh (.int m), .sh (.str letS), .ow false (resL.map .str), .ow false (ys.map .str), .sh (.int i), .sh (.str z), x, y]) := ⟨_, rfl⟩
  refine s_cut K0 ?_ ?_
  rotate_left
  · intro s hs
    rw [hK0] at hs
    obtain ⟨z, y, hy, hz, hn, rfl⟩ := hs
    have hl : ys.length + 1 ≤ limN := Nat.le_trans (show ys.length + 1 ≤ 10 by omega) (by decide)
    simp -implicitDefEqProofs [rd, readS, takeS, readF, takeF, two, late, lateO, setS, hasS, hasL, lenOk, Ex.noio, Exs.noio, Oex.noio, retE, wipeS, backS, appS, hl]
    rw [hI]
    refine ⟨ys ++ [z], xs, _, _, _, _, rfl, rfl, hx, hy, by rw [List.length_append, el]; rfl, ?_, ?_, by omega, hp, by rw [List.map_append]; rfl⟩
    · intro u hu
      rcases List.mem_append.mp hu with h | h
      · exact hnm u h
      · rw [List.mem_singleton.mp h]; exact hz
    · rw [List.nodup_append]
      refine ⟨hnd, by simp, fun a ha b hb => ?_⟩
      rw [List.mem_singleton.mp hb]
      rintro rfl
      exact hn ha
  have c1 := cmp_in z ys
  have c2 := cmp_in z resL
  have loop : ∀ s : Sg, s = [.ow true xs, .sh (.int m), .sh (.str letS), .ow false (resL.map .str), .ow false (ys.map .str), .sh (.int i), .sh (.str z), x, y] → ∀ {P : Po}, P.nx = K0 → wS (loopF (fun x s => seqF (ofS (asg (.nm 8) x s)) (evMs gl C (.cons (.iff (.cmp .notIn (.loc 8) (.loc 4)) (.cons (.set 6 (.loc 8)) .nil) .nil) .nil))) (spareL.map .str) s) P := by
    rintro s rfl P hP
    obtain ⟨M, hM⟩ : ∃ J : List D → Sg → Prop, J = (fun ds s => ∃ (as bs : List Str) (z : Str) (y : Slot), y.pinned = false ∧ spareL = as ++ bs ∧ ds = bs.map .str ∧ ((∃ u ∈ as, u ∉ ys) → z ∈ spareL ∧ z ∉ ys) ∧ s = [.ow true xs, .sh (.int m), .sh (.str letS), .ow false (resL.map .str), .ow false (ys.map .str), .sh (.int i), .sh (.str z), x, y]) := ⟨_, rfl⟩
    refine s_for M _ _ (by rw [hM]; exact ⟨[], _, z, y, hy, rfl, rfl, by simp, rfl⟩) ?_ ?_
    · intro d ds s hs
      rw [hM] at hs
      obtain ⟨as, bs, z, y, hy, e1, e2, hz, rfl⟩ := hs
      cases bs with
      | nil => cases e2
      | cons b bs =>
        cases e2
        have cb := cmp_nin b ys
        cases hb : memS b ys with
        | true =>
          rw [hb] at cb
          simp -implicitDefEqProofs [rd, readS, takeS, readF, takeF, two, late, lateO, setS, hasS, hasL, lenOk, Ex.noio, Exs.noio, Oex.noio, retE, wipeS, backS, asg, hy, cb]
          rw [hM]
          refine ⟨as ++ [b], bs, z, _, rfl, by rw [e1, List.append_assoc]; rfl, rfl, ?_, rfl⟩
          rintro ⟨u, hu, hn⟩
          rcases List.mem_append.mp hu with h | h
          · exact hz ⟨u, h, hn⟩
          · rw [List.mem_singleton.mp h] at hn
            exact absurd (List.contains_iff_mem.mp hb) hn
        | false =>
          rw [hb] at cb
          simp -implicitDefEqProofs [rd, readS, takeS, readF, takeF, two, late, lateO, setS, hasS, hasL, lenOk, Ex.noio, Exs.noio, Oex.noio, retE, wipeS, backS, asg, hy, cb]
          rw [hM]
          refine ⟨as ++ [b], bs, b, _, rfl, by rw [e1, List.append_assoc]; rfl, rfl, fun _ => ⟨by rw [e1]; simp, fun h => ?_⟩, rfl⟩
          rw [show memS b ys = true from List.contains_iff_mem.mpr h] at hb
          cases hb
    · intro s hs
      rw [hM] at hs
      obtain ⟨as, bs, z, y, hy, e1, e2, hz, rfl⟩ := hs
      cases bs with
      | cons _ _ => cases e2
      | nil =>
        rw [List.append_nil] at e1
        obtain ⟨z1, z2⟩ := hz (by rw [← e1]; exact spare_free (by omega))
        rw [hP, hK0]
        exact ⟨z, y, hy, spare_nm z z1, z2, rfl⟩
  have hsp : [D.str (Str.ofString "qa"), D.str (Str.ofString "qb"), D.str (Str.ofString "qc"), D.str (Str.ofString "qd"), D.str (Str.ofString "qe")] = spareL.map D.str := rfl
  cases h1 : memS z ys with
  | true =>
    rw [h1] at c1
    simp -implicitDefEqProofs [rd, readS, takeS, readF, takeF, two, late, lateO, setS, hasS, hasL, lenOk, Ex.noio, Exs.noio, Oex.noio, retE, wipeS, backS, c1, limN]
    rw [hsp]
    exact loop _ rfl rfl
  | false =>
    rw [h1] at c1
    cases h2 : memS z resL with
    | true =>
      rw [h2] at c2
      simp -implicitDefEqProofs [rd, readS, takeS, readF, takeF, two, late, lateO, setS, hasS, hasL, lenOk, Ex.noio, Exs.noio, Oex.noio, retE, wipeS, backS, c1, c2, limN]
      rw [hsp]
      exact loop _ rfl rfl
    | false =>
      rw [h2] at c2
      simp -implicitDefEqProofs [rd, readS, takeS, readF, takeF, two, late, lateO, setS, hasS, hasL, lenOk, Ex.noio, Exs.noio, Oex.noio, retE, wipeS, backS, c1, c2]
      rw [hK0]
      refine ⟨z, y, hy, hz.name k1 k8 h2, fun h => ?_, rfl⟩
      rw [show memS z ys = true from List.contains_iff_mem.mpr h] at h1
      cases h1
/-- what the two families of laws draw formulas and list cases with -/
class LibLf (gl : Str → Option D) (T : Str → Option Fn) : Prop extends LibLn gl T where
  fm : ∀ {n : Nat} (_ : 10 ≤ n) {p : Bool} {xs : List D} {t : Nat} {ns : List Str} (_ : 1 ≤ ns.length) (_ : ns.length ≤ 4) (_ : Pl t xs) (_ : t ≤ 90000) {m : Nat} (_ : 1 ≤ m) (_ : m ≤ 100) {Q : D → Bool → Slot → Prop} {X : Str → Option D → Slot → Prop}
    (_ : ∀ f xs', FmB ns (4 * m - 1) (m + 5) f → Pl (t + 8 * m) xs' → Q (fmD f) false (.ow p xs')), wC (callN gl T n "_law_formula" (.ow p xs) [nsD ns, .int m]) Q X
  cs : ∀ {n : Nat} (_ : 3 ≤ n) {m : Nat} (_ : m ≤ 4), callN gl T n "_law_cases" .un [.int m] = .ret (.lst ((csL m).map csD)) true .un
end
end IL
end
section
set_option maxHeartbeats 1000000
namespace IL
open PySem
def fn_is_number : Fn := ⟨1, 1, false,
    (.cons (.ret (.and (.call "is_fraction" (.cons false (.loc 0) .nil)) (.and (.cmp .le (.blt .abs (.cons false (.ix (.loc 0) (.lit (.int 0))) .nil)) (.glo "BIGGEST")) (.cmp .le (.ix (.loc 0) (.lit (.int 1))) (.glo "BIGGEST")))))
    .nil)⟩
def fn_is_pair : Fn := ⟨2, 2, false,
    (.cons (.iff (.or (.not (.isi (.loc 1) [.tuple])) (.cmp .ne (.blt .len (.cons false (.loc 1) .nil)) (.lit (.int 2)))) (.cons (.ret (.lit (.bl false)))
    .nil) .nil)
    (.cons (.ret (.and (.call "is_number" (.cons false (.ix (.loc 1) (.lit (.int 0))) .nil)) (.call "is_formula" (.cons false (.loc 0) (.cons false (.ix (.loc 1) (.lit (.int 1))) .nil)))))
    .nil))⟩
def fn_check_quantity : Fn := ⟨2, 4, false,
    (.cons (.iff (.or (.not (.isi (.loc 1) [.tuple])) (.cmp .gt (.blt .len (.cons false (.loc 1) .nil)) (.glo "MOST_PAIRS"))) (.cons (.rais "InvalidQuantity" (.yes (.neg (.lit (.int 1)))))
    .nil) .nil)
    (.cons (.forr (.cons (.nm 2) (.cons (.nm 3) .nil)) (.enum (.seq (.loc 1))) (.cons (.iff (.not (.call "is_pair" (.cons false (.loc 0) (.cons false (.loc 3) .nil)))) (.cons (.rais "InvalidQuantity" (.yes (.loc 2)))
    .nil) .nil)
    .nil))
    .nil))⟩
def fn_value_at : Fn := ⟨3, 6, false,
    (.cons (.set 3 (.glo "ZERO"))
    (.cons (.forr (.cons (.nm 4) (.cons (.nm 5) .nil)) (.seq (.loc 1)) (.cons (.iff (.call "truth" (.cons false (.loc 0) (.cons false (.loc 5) (.cons false (.loc 2) .nil)))) (.cons (.set 3 (.call "add_up" (.cons false (.loc 3) (.cons false (.loc 4) .nil))))
    .nil) .nil)
    .nil))
    (.cons (.ret (.loc 3))
    .nil)))⟩
def fn_value_in : Fn := ⟨3, 3, false,
    (.cons (.ex (.call "check_names" (.cons false (.loc 0) .nil)))
    (.cons (.ex (.call "check_quantity" (.cons false (.loc 0) (.cons false (.loc 1) .nil))))
    (.cons (.ex (.call "check_case" (.cons false (.loc 0) (.cons false (.loc 2) .nil))))
    (.cons (.ret (.call "value_at" (.cons false (.loc 0) (.cons false (.loc 1) (.cons false (.loc 2) .nil)))))
    .nil))))⟩
def g_BIGGEST : D := .int 1000000000000000000000000000000000000000000000000000000000000
def g_MOST_PAIRS : D := .int 6
def tabQn : List (Str × Fn) := [("is_number", fn_is_number), ("is_pair", fn_is_pair), ("check_quantity", fn_check_quantity), ("value_at", fn_value_at), ("value_in", fn_value_in)]
def gloQn : List (Str × D) := [("BIGGEST", g_BIGGEST), ("MOST_PAIRS", g_MOST_PAIRS)]
class LibQn (gl : Str → Option D) (T : Str → Option Fn) : Prop where
  e_is_number : T "is_number" = some fn_is_number
  e_is_pair : T "is_pair" = some fn_is_pair
  e_check_quantity : T "check_quantity" = some fn_check_quantity
  e_value_at : T "value_at" = some fn_value_at
  e_value_in : T "value_in" = some fn_value_in
  e_BIGGEST : gl "BIGGEST" = some g_BIGGEST
  e_MOST_PAIRS : gl "MOST_PAIRS" = some g_MOST_PAIRS
/-- a number that a quantity may have -/
structure Num (q : Rat) : Prop where
  n : q.num.natAbs ≤ 10 ^ 60
  d : q.den ≤ 10 ^ 60
theorem Num.bd {q : Rat} (h : Num q) : Bd 200 q := ⟨Nat.lt_of_le_of_lt h.n (by decide), Nat.lt_of_le_of_lt h.d (by decide)⟩
def prD (p : Rat × Fm) : D := .tup [qD p.1, fmD p.2]
def qnD (qs : List (Rat × Fm)) : D := .tup (qs.map prD)
@[simp] theorem it_Q (qs : List (Rat × Fm)) : itemsD (qnD qs) = some (qs.map prD) := rfl
@[simp] theorem ty_Q (qs : List (Rat × Fm)) : isTys (qnD qs) [.tuple] = true := rfl
@[simp] theorem len_Q (qs : List (Rat × Fm)) : bltD .len [qnD qs] = some (.int qs.length, false) := by
  show some (D.int ((qs.map prD).length : Nat), false) = _
  rw [List.length_map]
@[simp] theorem ty_P (p : Rat × Fm) : isTys (prD p) [.tuple] = true := rfl
@[simp] theorem len_P (p : Rat × Fm) : bltD .len [prD p] = some (.int 2, false) := rfl
@[simp] theorem ix_P0 (p : Rat × Fm) : ixD (prD p) (.int 0) = some (qD p.1) := rfl
@[simp] theorem ix_P1 (p : Rat × Fm) : ixD (prD p) (.int 1) = some (fmD p.2) := rfl
section
variable {gl : Str → Option D} {T : Str → Option Fn}
theorem run_is_number [Lq : LibQn gl T] [Lr : LibRat gl T] {n : Nat} (hn : 3 ≤ n) {q : Rat} (h : Num q) : callN gl T n "is_number" .un [qD q] = .ret (.bl true) false .un := by
  refine c_eq (c_run Lq.e_is_number (by omega) rfl rfl ?_)
  have h1 := run_is_fraction (gl := gl) (T := T) (n := n - 1) (by omega) (qD q)
  rw [isFr_qD] at h1
  have h2 : gl "BIGGEST" = some (.int 1000000000000000000000000000000000000000000000000000000000000) := Lq.e_BIGGEST
  have h3 := h.n
  have h4 := h.d
  have h5 : (if q.num < 0 then -q.num else q.num) ≤ 1000000000000000000000000000000000000000000000000000000000000 := by omega
  have h6 : (q.den : Int) ≤ 1000000000000000000000000000000000000000000000000000000000000 := by omega
  generalize callN gl T (n - 1) = C at *
  simp -implicitDefEqProofs [fn_is_number, rd, readS, takeS, readF, takeF, two, late, lateO, setS, hasS, hasL, lenOk, Ex.noio, Exs.noio, Oex.noio, retE, wipeS, backS, h1, h2, h5, h6]
theorem enum_at : ∀ (xs : List D) (k i : Nat) (x : D), (enumL k xs)[i]? = some x → ∃ y, xs[i]? = some y ∧ x = .tup [.int ((k + i : Nat) : Int), y]
  | [], k, i, x, h => by simp [enumL] at h
  | y :: ys, k, 0, x, h => by
    rw [enumL, List.getElem?_cons_zero] at h
    exact ⟨y, rfl, (Option.some.inj h).symm⟩
  | y :: ys, k, i + 1, x, h => by
    rw [enumL, List.getElem?_cons_succ] at h
    obtain ⟨z, h1, h2⟩ := enum_at ys (k + 1) i x h
    exact ⟨z, by rw [List.getElem?_cons_succ]; exact h1, by rw [h2, show k + 1 + i = k + (i + 1) by omega]⟩
end
end IL
end
section
set_option maxHeartbeats 1000000
namespace IL
open PySem
def fn__law_column : Fn := ⟨2, 3, false,
    (.cons (.ret (.lc [2] (.nm 2) (.seq (.call "_law_cases" (.cons false (.blt .len (.cons false (.loc 0) .nil)) .nil))) .no (.blt .int (.cons false (.call "_law_true" (.cons false (.loc 0) (.cons false (.loc 1) (.cons false (.loc 2) .nil)))) .nil))))
    .nil)⟩
def fn__law_plus : Fn := ⟨2, 2, false,
    (.cons (.iff (.cmp .eq (.ix (.loc 0) (.lit (.int 1))) (.ix (.loc 1) (.lit (.int 1)))) (.cons (.ret (.tup (.cons false (.bin .add (.ix (.loc 0) (.lit (.int 0))) (.ix (.loc 1) (.lit (.int 0)))) (.cons false (.ix (.loc 0) (.lit (.int 1))) .nil))))
    .nil) .nil)
    (.cons (.ret (.tup (.cons false (.bin .add (.bin .mul (.ix (.loc 0) (.lit (.int 0))) (.ix (.loc 1) (.lit (.int 1)))) (.bin .mul (.ix (.loc 1) (.lit (.int 0))) (.ix (.loc 0) (.lit (.int 1))))) (.cons false (.bin .mul (.ix (.loc 0) (.lit (.int 1))) (.ix (.loc 1) (.lit (.int 1)))) .nil))))
    .nil))⟩
def fn__law_same : Fn := ⟨2, 2, false,
    (.cons (.ret (.cmp .eq (.bin .mul (.ix (.loc 0) (.lit (.int 0))) (.ix (.loc 1) (.lit (.int 1)))) (.bin .mul (.ix (.loc 1) (.lit (.int 0))) (.ix (.loc 0) (.lit (.int 1))))))
    .nil)⟩
def fn__law_quantity : Fn := ⟨3, 6, true,
    (.cons (.set 3 (.lst .nil))
    (.cons (.forr (.nm 4) (.rng (.cio "_law_draw" 0 (.cons false (.bin .add (.loc 2) (.lit (.int 1))) .nil))) (.cons (.set 5 (.call "_law_lowest" (.cons false (.bin .sub (.cio "_law_draw" 0 (.cons false (.lit (.int 121)) .nil)) (.lit (.int 60))) (.cons false (.bin .add (.lit (.int 1)) (.cio "_law_draw" 0 (.cons false (.lit (.int 12)) .nil))) .nil))))
    (.cons (.app 3 (.tup (.cons false (.loc 5) (.cons false (.cio "_law_formula" 0 (.cons false (.loc 1) (.cons false (.lit (.int 3)) .nil))) .nil))))
    .nil)))
    (.cons (.ret (.blt .tuple (.cons false (.loc 3) .nil)))
    .nil)))⟩
def fn__law_worths : Fn := ⟨2, 8, false,
    (.cons (.set 2 (.lc [5] (.nm 5) (.seq (.call "_law_cases" (.cons false (.blt .len (.cons false (.loc 0) .nil)) .nil))) .no (.tup (.cons false (.lit (.int 0)) (.cons false (.lit (.int 1)) .nil)))))
    (.cons (.forr (.nm 3) (.seq (.loc 1)) (.cons (.set 4 (.call "_law_column" (.cons false (.loc 0) (.cons false (.ix (.loc 3) (.lit (.int 1))) .nil))))
    (.cons (.set 2 (.lc [6, 7] (.cons (.nm 6) (.cons (.nm 7) .nil)) (.zip (.seq (.loc 2)) (.seq (.loc 4))) .no (.call "_law_plus" (.cons false (.loc 6) (.cons false (.tup (.cons false (.bin .mul (.ix (.ix (.loc 3) (.lit (.int 0))) (.lit (.int 0))) (.loc 7)) (.cons false (.ix (.ix (.loc 3) (.lit (.int 0))) (.lit (.int 1))) .nil))) .nil)))))
    .nil)))
    (.cons (.ret (.loc 2))
    .nil)))⟩
def tabLq : List (Str × Fn) := [("_law_column", fn__law_column), ("_law_plus", fn__law_plus), ("_law_same", fn__law_same), ("_law_quantity", fn__law_quantity), ("_law_worths", fn__law_worths)]
class LibLq (gl : Str → Option D) (T : Str → Option Fn) : Prop where
  e__law_column : T "_law_column" = some fn__law_column
  e__law_plus : T "_law_plus" = some fn__law_plus
  e__law_same : T "_law_same" = some fn__law_same
  e__law_quantity : T "_law_quantity" = some fn__law_quantity
  e__law_worths : T "_law_worths" = some fn__law_worths
inductive All2 {α β : Type} (R : α → β → Prop) : List α → List β → Prop
  | nil : All2 R [] []
  | cons {a : α} {b : β} {as : List α} {bs : List β} : R a b → All2 R as bs → All2 R (a :: as) (b :: bs)
theorem All2.snoc {α β : Type} {R : α → β → Prop} {a : α} {b : β} (h : R a b) : ∀ {as : List α} {bs : List β}, All2 R as bs → All2 R (as ++ [a]) (bs ++ [b])
  | _, _, .nil => .cons h .nil
  | _, _, .cons h1 h2 => .cons h1 (h2.snoc h)
theorem All2.get {α β : Type} {R : α → β → Prop} {a : α} : ∀ {as : List α} {bs : List β} {i : Nat}, All2 R as bs → as[i]? = some a → ∃ b, bs[i]? = some b ∧ R a b
  | _, _, i, .nil, h => by simp at h
  | _, _, 0, .cons h1 _, h => by simp at h; subst h; exact ⟨_, rfl, h1⟩
  | _, _, i + 1, .cons _ h2, h => by
    rw [List.getElem?_cons_succ] at h
    obtain ⟨b, hb, r⟩ := h2.get h
    exact ⟨b, by rw [List.getElem?_cons_succ]; exact hb, r⟩
theorem All2.len {α β : Type} {R : α → β → Prop} : ∀ {as : List α} {bs : List β}, All2 R as bs → as.length = bs.length
  | _, _, .nil => rfl
  | _, _, .cons _ h => congrArg (· + 1) h.len
/-- a comprehension that gives a value for each item -/
theorem e_map {α : Type} {b : D → List D → Sg → R (List D)} {e f : α → D} {s : Sg} {Q : List D → Sg → Prop} {X : XP} {xs : List α} (hl : xs.length ≤ limN)
    (h : ∀ x ∈ xs, ∀ acc : List D, acc.length < limN → wE (b (e x) acc s) (fun acc' s' => acc' = acc ++ [f x] ∧ s' = s) X) (k : Q (xs.map f) s) : wE (lcR b (xs.map e) [] s) Q X := by
  refine e_lcI (fun ds acc s' => ∃ as bs : List α, xs = as ++ bs ∧ ds = bs.map e ∧ acc = as.map f ∧ s' = s) _ _ _ ⟨[], xs, rfl, rfl, rfl, rfl⟩ ?_ ?_
  · rintro d ds acc s' ⟨as, bs, e1, e2, rfl, rfl⟩
    cases bs with
    | nil => cases e2
    | cons y ys =>
      cases e2
      have := h y (by rw [e1]; simp) (as.map f) (by rw [List.length_map]; rw [e1, List.length_append, List.length_cons] at hl; omega)
      revert this
      generalize b (e y) (as.map f) s' = r
      cases r with
      | ok a s2 =>
        simp only [wE_ok]
        rintro ⟨rfl, rfl⟩
        exact ⟨as ++ [y], ys, by rw [e1, List.append_assoc]; rfl, rfl, by rw [List.map_append]; rfl, rfl⟩
      | ex c x s2 => simp only [wE_ex]; exact fun h => h
      | bad => simp only [wE_bad]; exact fun h => h
  · rintro acc s' ⟨as, bs, e1, e2, rfl, rfl⟩
    cases bs with
    | cons _ _ => cases e2
    | nil => rw [List.append_nil] at e1; rw [← e1]; exact k
/-- a pair of integers that stands for q -/
def Pr (k : Nat) (q : Rat) (d : D) : Prop := ∃ a b : Int, d = .tup [.int a, .int b] ∧ 0 < b ∧ Rat.divInt a b = q ∧ a.natAbs < 2 ^ k ∧ b.natAbs < 2 ^ k
theorem Bd.pr {k : Nat} {q : Rat} (h : Bd k q) : Pr k q (qD q) := ⟨q.num, q.den, rfl, by have := q.den_pos; omega, Rat.num_divInt_den q, h.1, h.2⟩
theorem pow_le {k l : Nat} (h : k ≤ l) : 2 ^ k ≤ 2 ^ l := Nat.pow_le_pow_right (by decide) h
theorem Pr.mono {k l : Nat} {q : Rat} {d : D} (h : Pr k q d) (hl : k ≤ l) : Pr l q d := by
  obtain ⟨a, b, rfl, b0, e, ha, hb⟩ := h
  exact ⟨a, b, rfl, b0, e, Nat.lt_of_lt_of_le ha (pow_le hl), Nat.lt_of_lt_of_le hb (pow_le hl)⟩
section
variable {gl : Str → Option D} {T : Str → Option Fn}
theorem run__law_plus [Lq : LibLq gl T] {n : Nat} (hn : 1 ≤ n) {k l : Nat} {p q : Rat} {x y : D} (hx : Pr k p x) (hy : Pr l q y) (hk : k ≤ 300000) (hl : l ≤ 300000) : ∃ z, callN gl T n "_law_plus" .un [x, y] = .ret z false .un ∧ Pr (k + l + 1) (p + q) z := by
  obtain ⟨a, b, rfl, b0, e1, ha, hb⟩ := hx
  obtain ⟨c, d, rfl, d0, e2, hc, hd⟩ := hy
  have h1 : a.natAbs < 2 ^ (k + l) := Nat.lt_of_lt_of_le ha (pow_le (by omega))
  have h2 : c.natAbs < 2 ^ (k + l) := Nat.lt_of_lt_of_le hc (pow_le (by omega))
  have h3 : b.natAbs < 2 ^ (k + l) := Nat.lt_of_lt_of_le hb (pow_le (by omega))
  have hs : 2 ^ (k + l + 1) = 2 ^ (k + l) + 2 ^ (k + l) := by rw [Nat.pow_succ]; omega
  by_cases h : b = d
  · subst h
    refine ⟨.tup [.int (a + c), .int b], ?_, a + c, b, rfl, b0, ?_, by omega, by omega⟩
    · refine c_eq (c_run Lq.e__law_plus (by omega) rfl rfl ?_)
      generalize callN gl T (n - 1) = C
      simp -implicitDefEqProofs [fn__law_plus, rd, readS, takeS, readF, takeF, two, late, lateO, setS, hasS, hasL, lenOk, Ex.noio, Exs.noio, Oex.noio, retE, wipeS, backS, limN]
    · rw [← e1, ← e2, Rat.divInt_add_divInt _ _ (by omega) (by omega), ← Int.add_mul, Rat.divInt_mul_right (by omega)]
  · refine ⟨.tup [.int (a * d + c * b), .int (b * d)], ?_, a * d + c * b, b * d, rfl, Int.mul_pos b0 d0, ?_, ?_, ?_⟩
    · refine c_eq (c_run Lq.e__law_plus (by omega) rfl rfl ?_)
      generalize callN gl T (n - 1) = C
      have m1 := (mo_of ha (by omega)).mul (mo_of hd (by omega))
      have m2 := (mo_of hc (by omega)).mul (mo_of hb (by omega))
      have m3 := (mo_of hb (by omega)).mul (mo_of hd (by omega))
      simp -implicitDefEqProofs [fn__law_plus, rd, readS, takeS, readF, takeF, two, late, lateO, setS, hasS, hasL, lenOk, Ex.noio, Exs.noio, Oex.noio, retE, wipeS, backS, limN, h, m1, m2, m3]
    · rw [← e1, ← e2, Rat.divInt_add_divInt _ _ (by omega) (by omega)]
    · have t1 := lt_pow_mul ha hd
      have t2 := lt_pow_mul hc hb
      rw [Nat.add_comm l k] at t2
      have := Int.natAbs_add_le (a * d) (c * b)
      rw [Int.natAbs_mul, Int.natAbs_mul] at this
      omega
    · rw [Int.natAbs_mul]
      have := lt_pow_mul hb hd
      omega
theorem run__law_same [Lq : LibLq gl T] {n : Nat} (hn : 1 ≤ n) {k l : Nat} {p q : Rat} {x y : D} (hx : Pr k p x) (hy : Pr l q y) (hk : k ≤ 300000) (hl : l ≤ 300000) : callN gl T n "_law_same" .un [x, y] = .ret (.bl (decide (p = q))) false .un := by
  obtain ⟨a, b, rfl, b0, e1, ha, hb⟩ := hx
  obtain ⟨c, d, rfl, d0, e2, hc, hd⟩ := hy
  refine c_eq (c_run Lq.e__law_same (by omega) rfl rfl ?_)
  generalize callN gl T (n - 1) = C
  have m1 := (mo_of ha (by omega)).mul (mo_of hd (by omega))
  have m2 := (mo_of hc (by omega)).mul (mo_of hb (by omega))
  have he : (a * d == c * b) = decide (p = q) := by
    rw [Bool.eq_iff_iff, beq_iff_eq, decide_eq_true_eq, ← e1, ← e2, Rat.divInt_eq_divInt_iff (by omega) (by omega)]
  simp -implicitDefEqProofs [fn__law_same, rd, readS, takeS, readF, takeF, two, late, lateO, setS, hasS, hasL, lenOk, Ex.noio, Exs.noio, Oex.noio, retE, wipeS, backS, m1, m2, ← he]
theorem appS_ge {s : Sg} {i : Nat} {p : Bool} {A : List D} {d : D} (h : s[i]? = some (.ow p A)) (hl : A.length ≤ 1000) : appS s i [d] = some (s.set i (.ow p (A ++ [d]))) := by
  unfold appS
  rw [h]
  show (if A.length + 1 ≤ limN then some _ else none) = _
  rw [if_pos (Nat.le_trans (show A.length + 1 ≤ 1001 by omega) (by decide))]
end
end IL
end
section
set_option maxHeartbeats 1000000
namespace IL
open PySem
/-- products, one by one -/
def prs (xs ys : List Rat) : List Rat := (xs.zip ys).map fun p => p.1 * p.2
def dotQ (xs ys : List Rat) : Rat := sumQ (prs xs ys)
theorem bd_zero (k : Nat) : Bd (k + 1) 0 := ⟨Nat.two_pow_pos _, Nat.lt_of_lt_of_le (by decide) (Nat.pow_le_pow_right (show 0 < 2 by decide) (show 1 ≤ k + 1 by omega))⟩
end IL
end
section
set_option maxHeartbeats 1000000
namespace IL
open PySem
section
variable {gl : Str → Option D} {T : Str → Option Fn}
/-- weights of so many cases -/
structure Ws (m : Nat) (b : Int) (ws : List Int) : Prop where
  len : ws.length = m
  nn : ∀ w ∈ ws, 0 ≤ w
  hi : ∀ w ∈ ws, w ≤ b
  pos : ∃ w ∈ ws, 0 < w
theorem Ws.set {m : Nat} {b : Int} {ws : List Int} (h : Ws m b ws) {i : Nat} {x : Int} (hi : i < m) (h0 : 0 < x) (hb : x ≤ b) : Ws m b (ws.set i x) := by
  refine ⟨by rw [List.length_set]; exact h.len, fun w hw => ?_, fun w hw => ?_, x, ?_, h0⟩
  · rcases List.mem_or_eq_of_mem_set hw with h1 | rfl
    · exact h.nn w h1
    · omega
  · rcases List.mem_or_eq_of_mem_set hw with h1 | rfl
    · exact h.hi w h1
    · exact hb
  · exact List.mem_set (by rw [h.len]; exact hi) x
theorem same_add {a b t : Int} (ht : t ≠ 0) : Rat.divInt a t + Rat.divInt b t = Rat.divInt (a + b) t := by
  rw [Rat.divInt_add_divInt _ _ ht ht, ← Int.add_mul, Rat.divInt_mul_right ht]
end
end IL
end
section
set_option maxHeartbeats 1000000
namespace IL
open PySem
def fn_truth_column : Fn := ⟨2, 3, false,
    (.cons (.ret (.lc [2] (.nm 2) (.seq (.call "list_cases" (.cons false (.loc 0) .nil))) .no (.blt .int (.cons false (.call "truth" (.cons false (.loc 0) (.cons false (.loc 1) (.cons false (.loc 2) .nil)))) .nil))))
    .nil)⟩
def fn_are_ends : Fn := ⟨2, 2, false,
    (.cons (.iff (.or (.not (.call "is_number" (.cons false (.loc 0) .nil))) (.not (.call "is_number" (.cons false (.loc 1) .nil)))) (.cons (.ret (.lit (.bl false)))
    .nil) .nil)
    (.cons (.ret (.and (.not (.call "is_below" (.cons false (.loc 0) (.cons false (.glo "ZERO") .nil)))) (.and (.not (.call "is_below" (.cons false (.loc 1) (.cons false (.loc 0) .nil)))) (.not (.call "is_below" (.cons false (.glo "ONE") (.cons false (.loc 1) .nil)))))))
    .nil))⟩
def fn_is_fact : Fn := ⟨2, 2, false,
    (.cons (.iff (.or (.not (.isi (.loc 1) [.tuple])) (.or (.cmp .eq (.blt .len (.cons false (.loc 1) .nil)) (.lit (.int 0))) (.not (.isi (.ix (.loc 1) (.lit (.int 0))) [.str])))) (.cons (.ret (.lit (.bl false)))
    .nil) .nil)
    (.cons (.iff (.and (.cmp .eq (.ix (.loc 1) (.lit (.int 0))) (.lit (.str "chance"))) (.cmp .eq (.blt .len (.cons false (.loc 1) .nil)) (.lit (.int 4)))) (.cons (.ret (.and (.call "is_formula" (.cons false (.loc 0) (.cons false (.ix (.loc 1) (.lit (.int 1))) .nil))) (.call "are_ends" (.cons false (.ix (.loc 1) (.lit (.int 2))) (.cons false (.ix (.loc 1) (.lit (.int 3))) .nil)))))
    .nil) .nil)
    (.cons (.iff (.and (.cmp .eq (.ix (.loc 1) (.lit (.int 0))) (.lit (.str "given"))) (.cmp .eq (.blt .len (.cons false (.loc 1) .nil)) (.lit (.int 5)))) (.cons (.iff (.or (.not (.call "is_formula" (.cons false (.loc 0) (.cons false (.ix (.loc 1) (.lit (.int 1))) .nil)))) (.not (.call "is_formula" (.cons false (.loc 0) (.cons false (.ix (.loc 1) (.lit (.int 2))) .nil))))) (.cons (.ret (.lit (.bl false)))
    .nil) .nil)
    (.cons (.ret (.call "are_ends" (.cons false (.ix (.loc 1) (.lit (.int 3))) (.cons false (.ix (.loc 1) (.lit (.int 4))) .nil))))
    .nil)) .nil)
    (.cons (.iff (.and (.cmp .eq (.ix (.loc 1) (.lit (.int 0))) (.lit (.str "nomore"))) (.cmp .eq (.blt .len (.cons false (.loc 1) .nil)) (.lit (.int 3)))) (.cons (.ret (.and (.call "is_formula" (.cons false (.loc 0) (.cons false (.ix (.loc 1) (.lit (.int 1))) .nil))) (.call "is_formula" (.cons false (.loc 0) (.cons false (.ix (.loc 1) (.lit (.int 2))) .nil)))))
    .nil) .nil)
    (.cons (.ret (.lit (.bl false)))
    .nil)))))⟩
def fn_check_facts : Fn := ⟨2, 4, false,
    (.cons (.iff (.or (.not (.isi (.loc 1) [.list, .tuple])) (.cmp .gt (.blt .len (.cons false (.loc 1) .nil)) (.glo "MOST_FACTS"))) (.cons (.rais "InvalidFact" (.yes (.neg (.lit (.int 1)))))
    .nil) .nil)
    (.cons (.forr (.cons (.nm 2) (.cons (.nm 3) .nil)) (.enum (.seq (.loc 1))) (.cons (.iff (.not (.call "is_fact" (.cons false (.loc 0) (.cons false (.loc 3) .nil)))) (.cons (.rais "InvalidFact" (.yes (.loc 2)))
    .nil) .nil)
    .nil))
    .nil))⟩
def fn_stretch_rows : Fn := ⟨4, 8, false,
    (.cons (.set 4 (.lc [6, 7] (.cons (.nm 6) (.cons (.nm 7) .nil)) (.zip (.seq (.loc 0)) (.seq (.loc 1))) .no (.call "take_off" (.cons false (.tup (.cons false (.loc 6) (.cons false (.lit (.int 1)) .nil))) (.cons false (.call "multiply" (.cons false (.loc 2) (.cons false (.tup (.cons false (.loc 7) (.cons false (.lit (.int 1)) .nil))) .nil))) .nil)))))
    (.cons (.set 5 (.lc [6, 7] (.cons (.nm 6) (.cons (.nm 7) .nil)) (.zip (.seq (.loc 0)) (.seq (.loc 1))) .no (.call "take_off" (.cons false (.call "multiply" (.cons false (.loc 3) (.cons false (.tup (.cons false (.loc 7) (.cons false (.lit (.int 1)) .nil))) .nil))) (.cons false (.tup (.cons false (.loc 6) (.cons false (.lit (.int 1)) .nil))) .nil)))))
    (.cons (.ret (.lst (.cons false (.tup (.cons false (.lit (.str "low")) (.cons false (.loc 4) .nil))) (.cons false (.tup (.cons false (.lit (.str "high")) (.cons false (.loc 5) .nil))) .nil))))
    .nil)))⟩
def fn_rows_of : Fn := ⟨2, 8, false,
    (.cons (.iff (.cmp .eq (.ix (.loc 1) (.lit (.int 0))) (.lit (.str "chance"))) (.cons (.set 4 (.call "truth_column" (.cons false (.loc 0) (.cons false (.tup (.cons false (.lit (.str "yes")) .nil)) .nil))))
    (.cons (.ret (.call "stretch_rows" (.cons false (.call "truth_column" (.cons false (.loc 0) (.cons false (.ix (.loc 1) (.lit (.int 1))) .nil))) (.cons false (.loc 4) (.cons false (.ix (.loc 1) (.lit (.int 2))) (.cons false (.ix (.loc 1) (.lit (.int 3))) .nil))))))
    .nil)) .nil)
    (.cons (.iff (.cmp .eq (.ix (.loc 1) (.lit (.int 0))) (.lit (.str "given"))) (.cons (.set 4 (.call "truth_column" (.cons false (.loc 0) (.cons false (.ix (.loc 1) (.lit (.int 2))) .nil))))
    (.cons (.set 5 (.lc [6, 7] (.cons (.nm 6) (.cons (.nm 7) .nil)) (.zip (.seq (.call "truth_column" (.cons false (.loc 0) (.cons false (.ix (.loc 1) (.lit (.int 1))) .nil)))) (.seq (.loc 4))) .no (.bin .mul (.loc 6) (.loc 7))))
    (.cons (.ret (.call "stretch_rows" (.cons false (.loc 5) (.cons false (.loc 4) (.cons false (.ix (.loc 1) (.lit (.int 3))) (.cons false (.ix (.loc 1) (.lit (.int 4))) .nil))))))
    .nil))) .nil)
    (.cons (.set 2 (.call "truth_column" (.cons false (.loc 0) (.cons false (.ix (.loc 1) (.lit (.int 1))) .nil))))
    (.cons (.set 3 (.call "truth_column" (.cons false (.loc 0) (.cons false (.ix (.loc 1) (.lit (.int 2))) .nil))))
    (.cons (.ret (.lst (.cons false (.tup (.cons false (.lit (.str "low")) (.cons false (.lc [6, 7] (.cons (.nm 6) (.cons (.nm 7) .nil)) (.zip (.seq (.loc 2)) (.seq (.loc 3))) .no (.tup (.cons false (.bin .sub (.loc 7) (.loc 6)) (.cons false (.lit (.int 1)) .nil)))) .nil))) .nil)))
    .nil)))))⟩
def fn_all_rows : Fn := ⟨2, 7, false,
    (.cons (.set 2 (.lst .nil))
    (.cons (.forr (.cons (.nm 3) (.cons (.nm 4) .nil)) (.enum (.seq (.loc 1))) (.cons (.forr (.cons (.nm 5) (.cons (.nm 6) .nil)) (.seq (.call "rows_of" (.cons false (.loc 0) (.cons false (.loc 4) .nil)))) (.cons (.app 2 (.tup (.cons false (.loc 3) (.cons false (.loc 5) (.cons false (.loc 6) .nil)))))
    .nil))
    .nil))
    (.cons (.ret (.loc 2))
    .nil)))⟩
def fn_first_misfit : Fn := ⟨2, 5, false,
    (.cons (.forr (.cons (.nm 2) (.cons (.nm 3) (.cons (.nm 4) .nil))) (.seq (.loc 0)) (.cons (.iff (.call "is_below" (.cons false (.call "dot" (.cons false (.loc 4) (.cons false (.loc 1) .nil))) (.cons false (.glo "ZERO") .nil))) (.cons (.ret (.tup (.cons false (.loc 2) (.cons false (.loc 3) .nil))))
    .nil) .nil)
    .nil))
    (.cons (.ret (.lit .non))
    .nil))⟩
def fn_misfit : Fn := ⟨3, 3, false,
    (.cons (.ex (.call "check_names" (.cons false (.loc 0) .nil)))
    (.cons (.ex (.call "check_facts" (.cons false (.loc 0) (.cons false (.loc 1) .nil))))
    (.cons (.ex (.call "check_world" (.cons false (.loc 0) (.cons false (.loc 2) .nil))))
    (.cons (.ret (.call "first_misfit" (.cons false (.call "all_rows" (.cons false (.loc 0) (.cons false (.loc 1) .nil))) (.cons false (.loc 2) .nil))))
    .nil))))⟩
def g_MOST_FACTS : D := .int 10
def tabFc : List (Str × Fn) := [("truth_column", fn_truth_column), ("are_ends", fn_are_ends), ("is_fact", fn_is_fact), ("check_facts", fn_check_facts), ("stretch_rows", fn_stretch_rows), ("rows_of", fn_rows_of), ("all_rows", fn_all_rows), ("first_misfit", fn_first_misfit), ("misfit", fn_misfit)]
def gloFc : List (Str × D) := [("MOST_FACTS", g_MOST_FACTS)]
class LibFc (gl : Str → Option D) (T : Str → Option Fn) : Prop where
  e_truth_column : T "truth_column" = some fn_truth_column
  e_are_ends : T "are_ends" = some fn_are_ends
  e_is_fact : T "is_fact" = some fn_is_fact
  e_check_facts : T "check_facts" = some fn_check_facts
  e_stretch_rows : T "stretch_rows" = some fn_stretch_rows
  e_rows_of : T "rows_of" = some fn_rows_of
  e_all_rows : T "all_rows" = some fn_all_rows
  e_first_misfit : T "first_misfit" = some fn_first_misfit
  e_misfit : T "misfit" = some fn_misfit
  e_MOST_FACTS : gl "MOST_FACTS" = some g_MOST_FACTS
@[simp] theorem w_given_chance : (Str.ofString "given" = Str.ofString "chance") = False := eq_false (by decide)
@[simp] theorem w_nomore_chance : (Str.ofString "nomore" = Str.ofString "chance") = False := eq_false (by decide)
@[simp] theorem w_nomore_given : (Str.ofString "nomore" = Str.ofString "given") = False := eq_false (by decide)
inductive Fc where
  | chance (f : Fm) (lo hi : Rat) | given (f g : Fm) (lo hi : Rat) | nomore (f g : Fm)
structure EndOk (lo hi : Rat) : Prop where
  nl : Num lo
  nh : Num hi
  a : 0 ≤ lo
  b : lo ≤ hi
  c : hi ≤ 1
def FcOk (ns : List Str) : Fc → Prop
  | .chance f lo hi => FmOk ns f ∧ EndOk lo hi
  | .given f g lo hi => FmOk ns f ∧ FmOk ns g ∧ EndOk lo hi
  | .nomore f g => FmOk ns f ∧ FmOk ns g
def one1 : Bd 1 1 := ⟨by decide, by decide⟩
section
variable {gl : Str → Option D} {T : Str → Option Fn}
theorem run_are_ends [Lc : LibFc gl T] [Lq : LibQn gl T] [Lr : LibRat gl T] {n : Nat} (hn : 4 ≤ n) {lo hi : Rat} (h : EndOk lo hi) : callN gl T n "are_ends" .un [qD lo, qD hi] = .ret (.bl true) false .un := by
  refine c_eq (c_run Lc.e_are_ends (by omega) rfl rfl ?_)
  have h1 := run_is_number (gl := gl) (T := T) (n := n - 1) (by omega) h.nl
  have h2 := run_is_number (gl := gl) (T := T) (n := n - 1) (by omega) h.nh
  have hb := fun {p q : Rat} {k l : Nat} (hp : Bd k p) (hq : Bd l q) (hk : k ≤ 400000) (hl : l ≤ 400000) => run_is_below (gl := gl) (T := T) (n := n - 1) (by omega) (hp.mo hk).1 (hq.mo hl).1 (hp.mo hk).2 (hq.mo hl).2
  have b1 := hb h.nl.bd (bd_zero 0) (by decide) (by decide)
  have b2 := hb h.nh.bd h.nl.bd (by decide) (by decide)
  have b3 := hb one1 h.nh.bd (by decide) (by decide)
  have n1 : ¬ lo < 0 := by have := h.a; grind
  have n2 : ¬ hi < lo := by have := h.b; grind
  have n3 : ¬ 1 < hi := by have := h.c; grind
  have hz : gl "ZERO" = some (qD 0) := Lr.e_ZERO
  have ho : gl "ONE" = some (qD 1) := Lr.e_ONE
  generalize callN gl T (n - 1) = C at *
  simp -implicitDefEqProofs [fn_are_ends, rd, readS, takeS, readF, takeF, two, late, lateO, setS, hasS, hasL, lenOk, Ex.noio, Exs.noio, Oex.noio, retE, wipeS, backS, h1, h2, b1, b2, b3, n1, n2, n3, hz, ho]
/-- a formula's truth, case by case -/
def col (ns : List Str) (f : Fm) : List Int := (csL ns.length).map fun c => if f.ev ns c then 1 else 0
end
end IL
end
section
set_option maxHeartbeats 1000000
namespace IL
open PySem
def fn_lesser : Fn := ⟨2, 2, false,
    (.cons (.iff (.call "is_below" (.cons false (.loc 1) (.cons false (.loc 0) .nil))) (.cons (.ret (.loc 1))
    .nil) .nil)
    (.cons (.ret (.loc 0))
    .nil))⟩
def fn_greater : Fn := ⟨2, 2, false,
    (.cons (.iff (.call "is_below" (.cons false (.loc 0) (.cons false (.loc 1) .nil))) (.cons (.ret (.loc 1))
    .nil) .nil)
    (.cons (.ret (.loc 0))
    .nil))⟩
def fn_is_span : Fn := ⟨1, 1, false,
    (.cons (.ret (.and (.isi (.loc 0) [.tuple]) (.and (.cmp .eq (.blt .len (.cons false (.loc 0) .nil)) (.lit (.int 2))) (.call "are_ends" (.cons false (.ix (.loc 0) (.lit (.int 0))) (.cons false (.ix (.loc 0) (.lit (.int 1))) .nil))))))
    .nil)⟩
def fn_check_spans : Fn := ⟨2, 4, false,
    (.cons (.iff (.or (.not (.isi (.loc 1) [.tuple])) (.cmp .ne (.blt .len (.cons false (.loc 1) .nil)) (.blt .len (.cons false (.loc 0) .nil)))) (.cons (.rais "InvalidSpans" (.yes (.neg (.lit (.int 1)))))
    .nil) .nil)
    (.cons (.forr (.cons (.nm 2) (.cons (.nm 3) .nil)) (.enum (.seq (.loc 1))) (.cons (.iff (.not (.call "is_span" (.cons false (.loc 3) .nil))) (.cons (.rais "InvalidSpans" (.yes (.loc 2)))
    .nil) .nil)
    .nil))
    .nil))⟩
def fn_both_plain : Fn := ⟨2, 3, false,
    (.cons (.set 2 (.call "greater" (.cons false (.glo "ZERO") (.cons false (.call "take_off" (.cons false (.call "add_up" (.cons false (.ix (.loc 0) (.lit (.int 0))) (.cons false (.ix (.loc 1) (.lit (.int 0))) .nil))) (.cons false (.glo "ONE") .nil))) .nil))))
    (.cons (.ret (.tup (.cons false (.loc 2) (.cons false (.call "lesser" (.cons false (.ix (.loc 0) (.lit (.int 1))) (.cons false (.ix (.loc 1) (.lit (.int 1))) .nil))) .nil))))
    .nil))⟩
def fn_either_plain : Fn := ⟨2, 3, false,
    (.cons (.set 2 (.call "lesser" (.cons false (.glo "ONE") (.cons false (.call "add_up" (.cons false (.ix (.loc 0) (.lit (.int 1))) (.cons false (.ix (.loc 1) (.lit (.int 1))) .nil))) .nil))))
    (.cons (.ret (.tup (.cons false (.call "greater" (.cons false (.ix (.loc 0) (.lit (.int 0))) (.cons false (.ix (.loc 1) (.lit (.int 0))) .nil))) (.cons false (.loc 2) .nil))))
    .nil))⟩
def fn_pair_of : Fn := ⟨2, 4, false,
    (.cons (.mat (.ix (.loc 1) (.lit (.int 0))) (.cons "yes" none (.cons (.ret (.tup (.cons false (.glo "ONE") (.cons false (.glo "ONE") .nil))))
    .nil) (.cons "no" none (.cons (.ret (.tup (.cons false (.glo "ZERO") (.cons false (.glo "ZERO") .nil))))
    .nil) (.cons "is" none (.cons (.ret (.ix (.loc 0) (.ix (.loc 1) (.lit (.int 1)))))
    .nil) (.cons "not" none (.cons (.unp (.cons (.nm 2) (.cons (.nm 3) .nil)) (.call "pair_of" (.cons false (.loc 0) (.cons false (.ix (.loc 1) (.lit (.int 1))) .nil))))
    (.cons (.ret (.tup (.cons false (.call "take_off" (.cons false (.glo "ONE") (.cons false (.loc 3) .nil))) (.cons false (.call "take_off" (.cons false (.glo "ONE") (.cons false (.loc 2) .nil))) .nil))))
    .nil)) (.cons "and" none (.cons (.ret (.call "both_plain" (.cons false (.call "pair_of" (.cons false (.loc 0) (.cons false (.ix (.loc 1) (.lit (.int 1))) .nil))) (.cons false (.call "pair_of" (.cons false (.loc 0) (.cons false (.ix (.loc 1) (.lit (.int 2))) .nil))) .nil))))
    .nil) .nil))))))
    (.cons (.ret (.call "either_plain" (.cons false (.call "pair_of" (.cons false (.loc 0) (.cons false (.ix (.loc 1) (.lit (.int 1))) .nil))) (.cons false (.call "pair_of" (.cons false (.loc 0) (.cons false (.ix (.loc 1) (.lit (.int 2))) .nil))) .nil))))
    .nil))⟩
def fn_plainW : Fn := ⟨3, 6, false,
    (.cons (.ex (.call "check_names" (.cons false (.loc 0) .nil)))
    (.cons (.ex (.call "check_spans" (.cons false (.loc 0) (.cons false (.loc 1) .nil))))
    (.cons (.ex (.call "check_formula" (.cons false (.loc 0) (.cons false (.loc 2) .nil))))
    (.cons (.set 3 (.dct [4, 5] (.cons (.nm 4) (.cons (.nm 5) .nil)) (.zip (.seq (.loc 0)) (.seq (.loc 1))) (.loc 4) (.loc 5)))
    (.cons (.ret (.call "pair_of" (.cons false (.loc 3) (.cons false (.loc 2) .nil))))
    .nil)))))⟩
def tabPn : List (Str × Fn) := [("lesser", fn_lesser), ("greater", fn_greater), ("is_span", fn_is_span), ("check_spans", fn_check_spans), ("both_plain", fn_both_plain), ("either_plain", fn_either_plain), ("pair_of", fn_pair_of), ("plain", fn_plainW)]
class LibPn (gl : Str → Option D) (T : Str → Option Fn) : Prop where
  e_lesser : T "lesser" = some fn_lesser
  e_greater : T "greater" = some fn_greater
  e_is_span : T "is_span" = some fn_is_span
  e_check_spans : T "check_spans" = some fn_check_spans
  e_both_plain : T "both_plain" = some fn_both_plain
  e_either_plain : T "either_plain" = some fn_either_plain
  e_pair_of : T "pair_of" = some fn_pair_of
  e_plainW : T "plain" = some fn_plainW
def wD (p : Rat × Rat) : D := .tup [qD p.1, qD p.2]
def lsQ (p q : Rat) : Rat := if q < p then q else p
def grQ (p q : Rat) : Rat := if p < q then q else p
def bothQ (a b : Rat × Rat) : Rat × Rat := (grQ 0 (a.1 + b.1 - 1), lsQ a.2 b.2)
def eithQ (a b : Rat × Rat) : Rat × Rat := (grQ a.1 b.1, lsQ 1 (a.2 + b.2))
/-- the plain pair -/
def Fm.pl (s : Str → Rat × Rat) : Fm → Rat × Rat
  | .yes => (1, 1)
  | .no => (0, 0)
  | .is x => s x
  | .not f => (1 - (f.pl s).2, 1 - (f.pl s).1)
  | .and f g => bothQ (f.pl s) (g.pl s)
  | .or f g => eithQ (f.pl s) (g.pl s)
/-- a name's pair -/
def spAt (ns : List Str) (sp : List (Rat × Rat)) (x : Str) : Rat × Rat := sp.getD (plc x ns) (0, 0)
def kD (ns : List Str) (sp : List (Rat × Rat)) : D := .obj dctN (pr ns (sp.map wD))
theorem lookP_at {x : Str} : ∀ {ns : List Str} {sp : List (Rat × Rat)}, x ∈ ns → ns.length = sp.length → lookP x (pr ns (sp.map wD)) = some (wD (spAt ns sp x))
  | [], _, h, _ => nomatch h
  | _ :: _, [], _, h => by simp at h
  | y :: ns, p :: sp, h, hl => by
    unfold spAt
    simp only [List.map_cons, pr, lookP, plc]
    by_cases e : y = x
    · rw [if_pos e, if_pos e]; rfl
    · rw [if_neg e, if_neg e]
      have hx : x ∈ ns := by
        rcases List.mem_cons.mp h with z | z
        · exact absurd z.symm e
        · exact z
      rw [lookP_at hx (by simpa using hl)]
      rfl
/-- both parts' sizes -/
def Bw (k : Nat) (p : Rat × Rat) : Prop := Bd k p.1 ∧ Bd k p.2
theorem Bw.mono {k l : Nat} {p : Rat × Rat} (h : Bw k p) (hl : k ≤ l) : Bw l p := ⟨h.1.mono hl, h.2.mono hl⟩
theorem lsQ_bd {k : Nat} {p q : Rat} (h1 : Bd k p) (h2 : Bd k q) : Bd k (lsQ p q) := by unfold lsQ; split <;> assumption
theorem grQ_bd {k : Nat} {p q : Rat} (h1 : Bd k p) (h2 : Bd k q) : Bd k (grQ p q) := by unfold grQ; split <;> assumption
theorem pl_bd {K : Nat} (hK : 3 ≤ K) {ns : List Str} {s : Str → Rat × Rat} (hs : ∀ x ∈ ns, Bw K (s x)) : ∀ f : Fm, f.over ns → Bw (K * f.nodes) (f.pl s)
  | .yes, _ => ⟨one1.mono (by simp only [Fm.nodes]; omega), one1.mono (by simp only [Fm.nodes]; omega)⟩
  | .no, _ => ⟨(bd_zero 0).mono (by simp only [Fm.nodes]; omega), (bd_zero 0).mono (by simp only [Fm.nodes]; omega)⟩
  | .is x, h => by
    rw [show K * (Fm.is x).nodes = K from Nat.mul_one K]
    exact hs x h
  | .not f, h => by
    have ih := pl_bd hK hs f h
    have e : K * (f.not).nodes = K * f.nodes + K := by simp only [Fm.nodes]; rw [Nat.mul_add, Nat.mul_one]
    rw [e]
    exact ⟨(one1.sub ih.2).mono (by omega), (one1.sub ih.1).mono (by omega)⟩
  | .and f g, h => by
    have h1 := pl_bd hK hs f h.1
    have h2 := pl_bd hK hs g h.2
    have e : K * (f.and g).nodes = K * f.nodes + K * g.nodes + K := by simp only [Fm.nodes]; rw [Nat.mul_add, Nat.mul_add, Nat.mul_one]
    rw [e]
    exact ⟨grQ_bd ((bd_zero 0).mono (by omega)) (((h1.1.add h2.1).sub one1).mono (by omega)), lsQ_bd (h1.2.mono (by omega)) (h2.2.mono (by omega))⟩
  | .or f g, h => by
    have h1 := pl_bd hK hs f h.1
    have h2 := pl_bd hK hs g h.2
    have e : K * (f.or g).nodes = K * f.nodes + K * g.nodes + K := by simp only [Fm.nodes]; rw [Nat.mul_add, Nat.mul_add, Nat.mul_one]
    rw [e]
    exact ⟨grQ_bd (h1.1.mono (by omega)) (h2.1.mono (by omega)), lsQ_bd (one1.mono (by omega)) ((h1.2.add h2.2).mono (by omega))⟩
@[simp] theorem ix_w0 (p : Rat × Rat) : ixD (wD p) (.int 0) = some (qD p.1) := rfl
@[simp] theorem ix_w1 (p : Rat × Rat) : ixD (wD p) (.int 1) = some (qD p.2) := rfl
section
variable {gl : Str → Option D} {T : Str → Option Fn}
theorem run_lesser [Lp : LibPn gl T] [Lr : LibRat gl T] {n : Nat} (hn : 2 ≤ n) {k : Nat} (hk : k ≤ 400000) {p q : Rat} (hp : Bd k p) (hq : Bd k q) : callN gl T n "lesser" .un [qD p, qD q] = .ret (qD (lsQ p q)) false .un := by
  refine c_eq (c_run Lp.e_lesser (by omega) rfl rfl ?_)
  have hb := run_is_below (gl := gl) (T := T) (n := n - 1) (by omega) (hq.mo hk).1 (hp.mo hk).1 (hq.mo hk).2 (hp.mo hk).2
  generalize callN gl T (n - 1) = C at *
  unfold lsQ
  by_cases h : q < p <;> simp -implicitDefEqProofs [fn_lesser, rd, readS, takeS, readF, takeF, two, late, lateO, setS, hasS, hasL, lenOk, Ex.noio, Exs.noio, Oex.noio, retE, wipeS, backS, hb, h]
theorem run_greater [Lp : LibPn gl T] [Lr : LibRat gl T] {n : Nat} (hn : 2 ≤ n) {k : Nat} (hk : k ≤ 400000) {p q : Rat} (hp : Bd k p) (hq : Bd k q) : callN gl T n "greater" .un [qD p, qD q] = .ret (qD (grQ p q)) false .un := by
  refine c_eq (c_run Lp.e_greater (by omega) rfl rfl ?_)
  have hb := run_is_below (gl := gl) (T := T) (n := n - 1) (by omega) (hp.mo hk).1 (hq.mo hk).1 (hp.mo hk).2 (hq.mo hk).2
  generalize callN gl T (n - 1) = C at *
  unfold grQ
  by_cases h : p < q <;> simp -implicitDefEqProofs [fn_greater, rd, readS, takeS, readF, takeF, two, late, lateO, setS, hasS, hasL, lenOk, Ex.noio, Exs.noio, Oex.noio, retE, wipeS, backS, hb, h]
theorem run_is_span [Lp : LibPn gl T] [Lc : LibFc gl T] [Lq : LibQn gl T] [Lr : LibRat gl T] {n : Nat} (hn : 5 ≤ n) {p : Rat × Rat} (h : EndOk p.1 p.2) : callN gl T n "is_span" .un [wD p] = .ret (.bl true) false .un := by
  refine c_eq (c_run Lp.e_is_span (by omega) rfl rfl ?_)
  have he := run_are_ends (gl := gl) (T := T) (n := n - 1) (by omega) h
  generalize callN gl T (n - 1) = C at *
  have h1 : isTys (wD p) [.tuple] = true := rfl
  have h2 : bltD .len [wD p] = some (.int 2, false) := rfl
  simp -implicitDefEqProofs [fn_is_span, rd, readS, takeS, readF, takeF, two, late, lateO, setS, hasS, hasL, lenOk, Ex.noio, Exs.noio, Oex.noio, retE, wipeS, backS, he, h1, h2]
theorem run_check_spans [Lp : LibPn gl T] [Lc : LibFc gl T] [Lq : LibQn gl T] [Lr : LibRat gl T] {n : Nat} (hn : 6 ≤ n) {ns : List Str} {sp : List (Rat × Rat)} (hl : ns.length = sp.length) (h : ∀ p ∈ sp, EndOk p.1 p.2) : callN gl T n "check_spans" .un [nsD ns, .tup (sp.map wD)] = .ret .non false .un := by
  refine c_eq (c_run Lp.e_check_spans (by omega) rfl rfl ?_)
  have hp := fun {p : Rat × Rat} (h : EndOk p.1 p.2) => run_is_span (gl := gl) (T := T) (n := n - 1) (by omega) h
  generalize callN gl T (n - 1) = C at *
  have h1 : isTys (.tup (sp.map wD)) [.tuple] = true := rfl
  have h2 : bltD .len [.tup (sp.map wD)] = some (.int (sp.length : Int), false) := by
    show some (D.int ((sp.map wD).length : Nat), false) = _
    rw [List.length_map]
  have h3 : bltD .len [nsD ns] = some (.int (sp.length : Int), false) := by
    show some (D.int ((ns.map D.str).length : Nat), false) = _
    rw [List.length_map, hl]
  unfold fn_check_spans
  refine s_cons ?_
  simp -implicitDefEqProofs [-rSs_cons, rd, readS, takeS, readF, takeF, two, late, lateO, setS, hasS, hasL, lenOk, Ex.noio, Exs.noio, Oex.noio, retE, wipeS, backS, h1, h2, h3]
  obtain ⟨I0, hI0⟩ : ∃ I : Sg → Prop, I = (fun s => ∃ v w : Slot, v.pinned = false ∧ w.pinned = false ∧ s = [.sh (nsD ns), .sh (.tup (sp.map wD)), v, w]) := ⟨_, rfl⟩
  refine s_cut I0 ?_ ?_
  rotate_left
  · intro s hs
    simp -implicitDefEqProofs [rd, readS, takeS, readF, takeF, two, late, lateO, setS, hasS, hasL, lenOk, Ex.noio, Exs.noio, Oex.noio, retE, wipeS, backS]
  simp -implicitDefEqProofs [-rSs_cons, rd, readS, takeS, readF, takeF, two, late, lateO, setS, hasS, hasL, lenOk, Ex.noio, Exs.noio, Oex.noio, retE, wipeS, backS]
  refine s_loop (fun _ => I0) _ 0 _ (by rw [hI0]; exact ⟨.un, .un, rfl, rfl, rfl⟩) ?_ (fun s h => h)
  intro i x s hx hs1
  obtain ⟨y, hy, rfl⟩ := enum_at _ _ _ _ hx
  rw [List.getElem?_map] at hy
  cases hq : sp[i]? with
  | none => rw [hq] at hy; cases hy
  | some p =>
    rw [hq] at hy
    cases hy
    have o1 := h p (List.mem_of_getElem? hq)
    rw [hI0] at hs1
    obtain ⟨v, w, hv, hw, rfl⟩ := hs1
    simp -implicitDefEqProofs [rd, readS, takeS, readF, takeF, two, late, lateO, setS, hasS, hasL, lenOk, Ex.noio, Exs.noio, Oex.noio, retE, wipeS, backS, asg, hv, hw, hp o1]
    rw [hI0]
    exact ⟨_, _, rfl, rfl, rfl⟩
theorem run_both_plain [Lp : LibPn gl T] [Lr : LibRat gl T] {n : Nat} (hn : 4 ≤ n) {k l : Nat} (hk : k + l + 2 ≤ 9000) {a b : Rat × Rat} (ha : Bw k a) (hb : Bw l b) : callN gl T n "both_plain" .un [wD a, wD b] = .ret (wD (bothQ a b)) false .un := by
  refine c_eq (c_run Lp.e_both_plain (by omega) rfl rfl ?_)
  have h1 := run_add_up (gl := gl) (T := T) (n := n - 1) (by omega) (ha.1.sz hb.1 (by omega))
  have h2 := run_take_off (gl := gl) (T := T) (n := n - 1) (by omega) ((ha.1.add hb.1).sz one1 (by omega))
  have h3 := run_greater (gl := gl) (T := T) (n := n - 1) (by omega) (k := k + l + 1 + 1 + 1) (by omega) ((bd_zero 0).mono (by omega)) ((ha.1.add hb.1).sub one1)
  have h4 := run_lesser (gl := gl) (T := T) (n := n - 1) (by omega) (k := k + l) (by omega) (ha.2.mono (by omega)) (hb.2.mono (by omega))
  have hz : gl "ZERO" = some (qD 0) := Lr.e_ZERO
  have ho : gl "ONE" = some (qD 1) := Lr.e_ONE
  generalize callN gl T (n - 1) = C at *
  have l2 : 2 ≤ limN := by decide
  simp -implicitDefEqProofs [fn_both_plain, rd, readS, takeS, readF, takeF, two, late, lateO, setS, hasS, hasL, lenOk, Ex.noio, Exs.noio, Oex.noio, retE, wipeS, backS, h1, h2, h3, h4, hz, ho, l2]
  rfl
theorem run_either_plain [Lp : LibPn gl T] [Lr : LibRat gl T] {n : Nat} (hn : 4 ≤ n) {k l : Nat} (hk : k + l + 2 ≤ 9000) {a b : Rat × Rat} (ha : Bw k a) (hb : Bw l b) : callN gl T n "either_plain" .un [wD a, wD b] = .ret (wD (eithQ a b)) false .un := by
  refine c_eq (c_run Lp.e_either_plain (by omega) rfl rfl ?_)
  have h1 := run_add_up (gl := gl) (T := T) (n := n - 1) (by omega) (ha.2.sz hb.2 (by omega))
  have h3 := run_lesser (gl := gl) (T := T) (n := n - 1) (by omega) (k := k + l + 1) (by omega) (one1.mono (by omega)) (ha.2.add hb.2)
  have h4 := run_greater (gl := gl) (T := T) (n := n - 1) (by omega) (k := k + l) (by omega) (ha.1.mono (by omega)) (hb.1.mono (by omega))
  have ho : gl "ONE" = some (qD 1) := Lr.e_ONE
  generalize callN gl T (n - 1) = C at *
  have l2 : 2 ≤ limN := by decide
  simp -implicitDefEqProofs [fn_either_plain, rd, readS, takeS, readF, takeF, two, late, lateO, setS, hasS, hasL, lenOk, Ex.noio, Exs.noio, Oex.noio, retE, wipeS, backS, h1, h3, h4, ho, l2]
  rfl
theorem run_pair_of [Lp : LibPn gl T] [Lr : LibRat gl T] {K : Nat} (hK : 3 ≤ K) {ns : List Str} {sp : List (Rat × Rat)} (hl : ns.length = sp.length) (hs : ∀ x ∈ ns, Bw K (spAt ns sp x)) : ∀ (f : Fm) (n : Nat), f.depth + 4 ≤ n → f.over ns → K * f.nodes + 2 ≤ 9000 →
    callN gl T n "pair_of" .un [kD ns sp, fmD f] = .ret (wD (f.pl (spAt ns sp))) false .un := by
  intro f
  have ho : gl "ONE" = some (qD 1) := Lr.e_ONE
  have hz : gl "ZERO" = some (qD 0) := Lr.e_ZERO
  have l2 : 2 ≤ limN := by decide
  induction f with
  | yes =>
    intro n hn hov hb
    refine c_eq (c_run Lp.e_pair_of (by omega) rfl rfl ?_)
    generalize callN gl T (n - 1) = C
    simp -implicitDefEqProofs [fn_pair_of, rd, readS, takeS, readF, takeF, two, late, lateO, setS, hasS, hasL, lenOk, Ex.noio, Exs.noio, Oex.noio, retE, wipeS, backS, fmD, Fm.pl, ho, l2]
    rfl
  | no =>
    intro n hn hov hb
    refine c_eq (c_run Lp.e_pair_of (by omega) rfl rfl ?_)
    generalize callN gl T (n - 1) = C
    simp -implicitDefEqProofs [fn_pair_of, rd, readS, takeS, readF, takeF, two, late, lateO, setS, hasS, hasL, lenOk, Ex.noio, Exs.noio, Oex.noio, retE, wipeS, backS, fmD, Fm.pl, hz, l2]
    rfl
  | is x =>
    intro n hn hov hb
    refine c_eq (c_run Lp.e_pair_of (by omega) rfl rfl ?_)
    generalize callN gl T (n - 1) = C
    have hx := lookP_at hov hl
    simp -implicitDefEqProofs [fn_pair_of, rd, readS, takeS, readF, takeF, two, late, lateO, setS, hasS, hasL, lenOk, Ex.noio, Exs.noio, Oex.noio, retE, wipeS, backS, fmD, Fm.pl, kD, hx]
  | not f ih =>
    intro n hn hov hb
    simp only [Fm.depth] at hn
    have eN : K * (f.not).nodes = K * f.nodes + K := by simp only [Fm.nodes]; rw [Nat.mul_add, Nat.mul_one]
    rw [eN] at hb
    have bf := pl_bd hK hs f hov
    refine c_eq (c_run Lp.e_pair_of (by omega) rfl rfl ?_)
    have h1 := ih (n - 1) (by omega) hov (by omega)
    have h2 := run_take_off (gl := gl) (T := T) (n := n - 1) (by omega) (one1.sz bf.2 (by omega))
    have h3 := run_take_off (gl := gl) (T := T) (n := n - 1) (by omega) (one1.sz bf.1 (by omega))
    generalize callN gl T (n - 1) = C at *
    have e1 : ∀ s : Sg, asg (.cons (.nm 2) (.cons (.nm 3) .nil)) (wD (f.pl (spAt ns sp))) s = asg (.cons (.nm 2) (.cons (.nm 3) .nil)) (.tup [qD (f.pl (spAt ns sp)).1, qD (f.pl (spAt ns sp)).2]) s := fun _ => rfl
    simp -implicitDefEqProofs [fn_pair_of, rd, readS, takeS, readF, takeF, two, late, lateO, setS, hasS, hasL, lenOk, Ex.noio, Exs.noio, Oex.noio, retE, wipeS, backS, fmD, Fm.pl, h1, h2, h3, ho, l2, e1, asg, Slot.pinned]
    rfl
  | and f g ihf ihg =>
    intro n hn hov hb
    simp only [Fm.depth] at hn
    have eN : K * (f.and g).nodes = K * f.nodes + K * g.nodes + K := by simp only [Fm.nodes]; rw [Nat.mul_add, Nat.mul_add, Nat.mul_one]
    rw [eN] at hb
    refine c_eq (c_run Lp.e_pair_of (by omega) rfl rfl ?_)
    have h1 := ihf (n - 1) (by omega) hov.1 (by omega)
    have h2 := ihg (n - 1) (by omega) hov.2 (by omega)
    have h3 := run_both_plain (gl := gl) (T := T) (n := n - 1) (by omega) (k := K * f.nodes) (l := K * g.nodes) (by omega) (pl_bd hK hs f hov.1) (pl_bd hK hs g hov.2)
    generalize callN gl T (n - 1) = C at *
    simp -implicitDefEqProofs [fn_pair_of, rd, readS, takeS, readF, takeF, two, late, lateO, setS, hasS, hasL, lenOk, Ex.noio, Exs.noio, Oex.noio, retE, wipeS, backS, fmD, Fm.pl, h1, h2, h3]
  | or f g ihf ihg =>
    intro n hn hov hb
    simp only [Fm.depth] at hn
    have eN : K * (f.or g).nodes = K * f.nodes + K * g.nodes + K := by simp only [Fm.nodes]; rw [Nat.mul_add, Nat.mul_add, Nat.mul_one]
    rw [eN] at hb
    refine c_eq (c_run Lp.e_pair_of (by omega) rfl rfl ?_)
    have h1 := ihf (n - 1) (by omega) hov.1 (by omega)
    have h2 := ihg (n - 1) (by omega) hov.2 (by omega)
    have h3 := run_either_plain (gl := gl) (T := T) (n := n - 1) (by omega) (k := K * f.nodes) (l := K * g.nodes) (by omega) (pl_bd hK hs f hov.1) (pl_bd hK hs g hov.2)
    generalize callN gl T (n - 1) = C at *
    simp -implicitDefEqProofs [fn_pair_of, rd, readS, takeS, readF, takeF, two, late, lateO, setS, hasS, hasL, lenOk, Ex.noio, Exs.noio, Oex.noio, retE, wipeS, backS, fmD, Fm.pl, h1, h2, h3]
theorem hasP_no {k : Str} : ∀ {ks : List Str} {ds : List D}, k ∉ ks → hasP k (pr ks ds) = false
  | [], _, _ => by simp [pr, hasP]
  | _ :: _, [], _ => by simp [pr, hasP]
  | j :: ks, d :: ds, h => by
    simp only [pr, hasP]
    rw [hasP_no (fun z => h (List.mem_cons_of_mem _ z)), Bool.or_false]
    exact beq_eq_false_iff_ne.mpr fun e => h (e ▸ List.mem_cons_self)
/-- the dict's loop over two rows -/
theorem dct_rows {C : Call} {a b c d : Slot} : ∀ (ks : List Str) (ds : List D) (pk : List Str) (pd : List D), ks.length = ds.length → pk.length = pd.length → (pk ++ ks).Nodup → (pk ++ ks).length ≤ 1000 →
    lcR (lcB [4, 5] (.cons (.nm 4) (.cons (.nm 5) .nil)) fun acc s => (evE gl C (.loc 4) s).bind fun y s => (evE gl C (.loc 5) s).bind fun z s => putR acc y.1 z.1 s) (zipL (ks.map D.str) ds) (pr pk pd) [a, b, c, d, .un, .un] = .ok (pr (pk ++ ks) (pd ++ ds)) [a, b, c, d, .un, .un]
  | [], [], pk, pd, _, _, _, _ => by simp [zipL, lcR]
  | k :: ks, x :: ds, pk, pd, h1, h2, h3, h4 => by
    have hk : k ∉ pk := fun z => by
      rw [List.nodup_append] at h3
      exact h3.2.2 k z k List.mem_cons_self rfl
    have e1 : putP k x (pr pk pd) = pr (pk ++ [k]) (pd ++ [x]) := by
      unfold putP
      rw [hasP_no hk]
      simpa using pr_app h2
    have hlen : (pr pk pd).length < limN := by
      rw [pr_len h2]
      simp only [List.length_append] at h4
      unfold limN; omega
    have ih := dct_rows (C := C) (a := a) (b := b) (c := c) (d := d) ks ds (pk ++ [k]) (pd ++ [x]) (by simpa using h1) (by simp [h2]) (by simpa using h3) (by simpa using h4)
    rw [List.append_assoc, List.append_assoc] at ih
    simp only [List.map_cons, zipL, lcR]
    have e2 : lcB [4, 5] (.cons (.nm 4) (.cons (.nm 5) .nil)) (fun acc s => (evE gl C (.loc 4) s).bind fun y s => (evE gl C (.loc 5) s).bind fun z s => putR acc y.1 z.1 s) (.tup [.str k, x]) (pr pk pd) [a, b, c, d, .un, .un] = .ok (pr (pk ++ [k]) (pd ++ [x])) [a, b, c, d, .un, .un] := by
      unfold lcB
      simp -implicitDefEqProofs [rd, readS, takeS, readF, takeF, two, late, lateO, setS, hasS, hasL, lenOk, Ex.noio, Exs.noio, Oex.noio, retE, wipeS, backS, asg, Slot.pinned, putR, hlen, e1]
    rw [e2]
    exact ih
  | [], _ :: _, _, _, h, _, _, _ => by simp at h
  | _ :: _, [], _, _, h, _, _, _ => by simp at h
theorem run_plain [Lp : LibPn gl T] [Lc : LibFc gl T] [Lq : LibQn gl T] [Lr : LibRat gl T] [Lm : LibFm gl T] {n : Nat} (hn : 17 ≤ n) {ns : List Str} (hs : Nms ns) {sp : List (Rat × Rat)} (hl : ns.length = sp.length) (h : ∀ p ∈ sp, EndOk p.1 p.2) {f : Fm} (of : FmOk ns f) :
    callN gl T n "plain" .un [nsD ns, .tup (sp.map wD), fmD f] = .ret (wD (f.pl (spAt ns sp))) false .un := by
  refine c_eq (c_run Lp.e_plainW (by omega) rfl rfl ?_)
  have h1 := run_check_names (gl := gl) (T := T) (n := n - 1) (by omega) (nsD ns)
  rw [hs.good] at h1
  simp only [chkR] at h1
  have h2 := run_check_spans (gl := gl) (T := T) (n := n - 1) (by omega) hl h
  have h3 := run_check_formula (gl := gl) (T := T) (n := n - 1) (by omega) hs of
  have bs : ∀ x ∈ ns, Bw 201 (spAt ns sp x) := fun x hx => by
    have hp : plc x ns < sp.length := by rw [← hl]; exact plc_lt hx
    have hm : spAt ns sp x ∈ sp := by
      unfold spAt
      rw [List.getD_eq_getElem?_getD, List.getElem?_eq_getElem hp]
      exact List.getElem_mem hp
    have := h _ hm
    exact ⟨this.nl.bd.mono (by decide), this.nh.bd.mono (by decide)⟩
  have h4 := run_pair_of (gl := gl) (T := T) (K := 201) (by decide) hl bs f (n - 1) (by have := of.dp; omega) of.ov (by have := of.nd; omega)
  generalize callN gl T (n - 1) = C at *
  have hd := dct_rows (gl := gl) (C := C) (a := .sh (nsD ns)) (b := .sh (.tup (sp.map wD))) (c := .sh (fmD f)) (d := .un) ns (sp.map wD) [] [] (by simpa using hl) rfl (by simpa using hs.nd) (by have := hs.hi; simp; omega)
  rw [List.nil_append, List.nil_append] at hd
  have e0 : pr [] [] = [] := by simp [pr]
  rw [e0] at hd
  have i1 : itemsD (nsD ns) = some (ns.map D.str) := rfl
  have i2 : itemsD (.tup (sp.map wD)) = some (sp.map wD) := rfl
  have l1 : (ns.map D.str).length ≤ 1000 := by have := hs.hi; simp; omega
  unfold fn_plainW
  refine s_cons ?_
  simp -implicitDefEqProofs [-rSs_cons, rd, readS, takeS, readF, takeF, two, late, lateO, setS, hasS, hasL, lenOk, Ex.noio, Exs.noio, Oex.noio, retE, wipeS, backS, h1]
  refine s_cons ?_
  simp -implicitDefEqProofs [-rSs_cons, rd, readS, takeS, readF, takeF, two, late, lateO, setS, hasS, hasL, lenOk, Ex.noio, Exs.noio, Oex.noio, retE, wipeS, backS, h2]
  refine s_cons ?_
  simp -implicitDefEqProofs [-rSs_cons, rd, readS, takeS, readF, takeF, two, late, lateO, setS, hasS, hasL, lenOk, Ex.noio, Exs.noio, Oex.noio, retE, wipeS, backS, h3]
  refine s_cons ?_
  obtain ⟨kb, hkb⟩ : ∃ kb : List D → Sg → R (List D), kb = fun acc s => (evE gl C (.loc 4) s).bind fun y s => (evE gl C (.loc 5) s).bind fun z s => putR acc y.1 z.1 s := ⟨_, rfl⟩
  rw [← hkb] at hd
  rw [rS_set, rE_dct, ← hkb]
  simp -implicitDefEqProofs [-rSs_cons, rd, readS, takeS, readF, takeF, two, late, lateO, setS, hasS, hasL, lenOk, Ex.noio, Exs.noio, Oex.noio, retE, wipeS, backS, i1, i2, hd]
  unfold kD at h4
  simp -implicitDefEqProofs [rd, readS, takeS, readF, takeF, two, late, lateO, setS, hasS, hasL, lenOk, Ex.noio, Exs.noio, Oex.noio, retE, wipeS, backS, h4]
end
end IL
end
section
set_option maxHeartbeats 1000000
namespace IL
open PySem
section
variable {gl : Str → Option D} {T : Str → Option Fn}
theorem div_le_div {a b m : Int} (hm : 0 < m) (h : a ≤ b) : Rat.divInt a m ≤ Rat.divInt b m := by
  have e := same_add (a := a) (b := b - a) (t := m) (by omega)
  rw [show a + (b - a) = b by omega] at e
  have := Rat.divInt_nonneg (a := b - a) (b := m) (by omega) (by omega)
  rw [← e]
  grind
/-- a fact as the laws draw it -/
def FcB (ns : List Str) : Fc → Prop
  | .chance f lo hi => FmB ns 11 8 f ∧ EndOk lo hi ∧ Bd 15 lo ∧ Bd 15 hi
  | .given f g lo hi => FmB ns 11 8 f ∧ FmB ns 11 8 g ∧ EndOk lo hi ∧ Bd 15 lo ∧ Bd 15 hi
  | .nomore f g => FmB ns 11 8 f ∧ FmB ns 11 8 g
theorem FcB.ok {ns : List Str} {f : Fc} (h : FcB ns f) : FcOk ns f := by
  cases f with
  | chance f lo hi => exact ⟨h.1.ok (by decide) (by decide), h.2.1⟩
  | given f g lo hi => exact ⟨h.1.ok (by decide) (by decide), h.2.1.ok (by decide) (by decide), h.2.2.1⟩
  | nomore f g => exact ⟨h.1.ok (by decide) (by decide), h.2.ok (by decide) (by decide)⟩
end
end IL
end
section
set_option maxHeartbeats 1000000
namespace IL
open PySem
end IL
end
section
set_option maxHeartbeats 1000000
namespace IL
end IL
end
section
set_option maxHeartbeats 1000000
namespace IL
open PySem
/-- a formula's truth as fractions -/
def colQ (ns : List Str) (f : Fm) : List Rat := (col ns f).map fun x : Int => (x : Rat)
/-- a world's chance of a formula -/
def ch (ns : List Str) (W : List Rat) (f : Fm) : Rat := dotQ (colQ ns f) W
end IL
end
section
set_option maxHeartbeats 1000000
namespace IL
open PySem
theorem num_over (lo : Rat) : lo = (lo.num : Rat) / (((lo.den : Nat) : Int) : Rat) := by
  rw [← Rat.divInt_eq_div, Rat.num_divInt_den]
theorem den_ne0 (lo : Rat) : (((lo.den : Nat) : Int) : Rat) ≠ 0 := by
  have := lo.den_pos
  intro h
  have : ((lo.den : Nat) : Int) = 0 := by exact_mod_cast h
  omega
theorem q1 {lo : Rat} {x y : Int} : Rat.divInt (x * lo.den - y * lo.num) lo.den = (x : Rat) - lo * (y : Rat) := by
  have d0 := den_ne0 lo
  have e := num_over lo
  rw [Rat.divInt_eq_div, Rat.intCast_sub, Rat.intCast_mul, Rat.intCast_mul]
  generalize (((lo.den : Nat) : Int) : Rat) = d at *
  generalize (lo.num : Rat) = m at *
  subst e
  grind
theorem q2 {lo : Rat} {x y : Int} : Rat.divInt (y * lo.num - x * lo.den) lo.den = lo * (y : Rat) - (x : Rat) := by
  have d0 := den_ne0 lo
  have e := num_over lo
  rw [Rat.divInt_eq_div, Rat.intCast_sub, Rat.intCast_mul, Rat.intCast_mul]
  generalize (((lo.den : Nat) : Int) : Rat) = d at *
  generalize (lo.num : Rat) = m at *
  subst e
  grind
theorem All2.app {α β : Type} {R : α → β → Prop} : ∀ {as as' : List α} {bs bs' : List β}, All2 R as bs → All2 R as' bs' → All2 R (as ++ as') (bs ++ bs')
  | _, _, _, _, .nil, h => h
  | _, _, _, _, .cons h t, h2 => .cons h (t.app h2)
end IL
end
section
set_option maxHeartbeats 1000000
namespace IL
open PySem
/-- the ends around a share -/
def Around (part total : Int) (lo hi : Rat) : Prop := EndOk lo hi ∧ (lo * (total : Rat) ≤ (part : Rat) ∧ (part : Rat) ≤ hi * (total : Rat)) ∧ Bd 15 lo ∧ Bd 15 hi
end IL
end
section
set_option maxHeartbeats 1000000
namespace IL
open PySem
def qOf : D → Rat
  | .tup [.int a, .int b] => Rat.divInt a b
  | _ => 0
theorem qOf_qD (q : Rat) : qOf (qD q) = q := Rat.num_divInt_den q
/-- a certificate's entry -/
def entD : D → Option (Int × Str × Rat)
  | .tup [.int i, .str s, z] => if isFr z && decide (0 < qOf z) then some (i, s, qOf z) else none
  | _ => none
abbrev Key := Nat × Str
def hit (e : Int × Str) (k : Key) : Bool := (k.1 : Int) == e.1 && k.2 == e.2
def scanAt (keys : List Key) (e : Int × Str) (i : Nat) : Nat := i + (keys.drop i).findIdx (hit e)
theorem scan_hit {keys : List Key} {e : Int × Str} {i : Nat} (h : i < keys.length) (hh : hit e keys[i] = true) : scanAt keys e i = i := by
  unfold scanAt
  rw [List.drop_eq_getElem_cons h, List.findIdx_cons, hh]
  rfl
theorem scan_miss {keys : List Key} {e : Int × Str} {i : Nat} (h : i < keys.length) (hh : hit e keys[i] = false) : scanAt keys e i = scanAt keys e (i + 1) := by
  unfold scanAt
  rw [List.drop_eq_getElem_cons h, List.findIdx_cons, hh]
  simp only [cond_false]
  omega
theorem scan_is {keys : List Key} {e : Int × Str} {i : Nat} (h : scanAt keys e i < keys.length) : hit e (keys[scanAt keys e i]'h) = true := by
  have h2 : (keys.drop i).findIdx (hit e) < (keys.drop i).length := by
    rw [List.length_drop]; unfold scanAt at h; omega
  have := List.findIdx_getElem (w := h2)
  rw [List.getElem_drop] at this
  exact this
/-- where the entries of a certificate fall among the rows -/
def runC (keys : List Key) : Nat → List D → Option (List (Nat × Rat))
  | _, [] => some []
  | i, d :: ds => match entD d with
    | none => none
    | some (a, s, w) => if scanAt keys (a, s) i < keys.length then (runC keys (scanAt keys (a, s) i + 1) ds).map ((scanAt keys (a, s) i, w) :: ·) else none
end IL
end
section
set_option maxHeartbeats 1000000
namespace IL
open PySem
/-- what an entry's numbers may be -/
def SmE (k : Nat) (d : D) : Prop := ∀ x y a b, d = .tup [x, y, .tup [.int a, .int b]] → a.natAbs < 2 ^ k ∧ b.natAbs < 2 ^ k
theorem SmE.bd {k : Nat} {x y : D} {q : Rat} (h : SmE k (.tup [x, y, qD q])) : Bd k q := ⟨(h _ _ _ _ rfl).1, (h _ _ _ _ rfl).2⟩
end IL
end
section
set_option maxHeartbeats 1000000
namespace IL
open PySem
theorem hit_eq {e : Int × Str} {k l : Key} (h1 : hit e k = true) (h2 : hit e l = true) : k = l := by
  unfold hit at h1 h2
  simp only [Bool.and_eq_true, beq_iff_eq] at h1 h2
  exact Prod.ext (by omega) (by rw [h1.2, h2.2])
theorem hit_one {keys : List Key} (hn : keys.Nodup) {e : Int × Str} {i j : Nat} (hi : i < keys.length) (hj : j < keys.length) (h1 : hit e keys[i] = true) (h2 : hit e keys[j] = true) : i = j :=
  by
    have hp := List.pairwise_iff_getElem.mp hn
    have e := hit_eq h1 h2
    rcases Nat.lt_trichotomy i j with h | h | h
    · exact (hp i j hi hj h e).elim
    · exact h
    · exact (hp j i hj hi h e.symm).elim
theorem scan_upto {keys : List Key} {e : Int × Str} : ∀ (m i j : Nat), j - i = m → i ≤ j → (hj : j < keys.length) → hit e keys[j] = true → scanAt keys e i ≤ j
  | 0, i, j, hm, hij, hj, hh => by
    have : i = j := by omega
    subst this
    rw [scan_hit hj hh]; omega
  | m + 1, i, j, hm, hij, hj, hh => by
    have hi : i < keys.length := by omega
    cases h : hit e keys[i] with
    | true => rw [scan_hit hi h]; exact hij
    | false =>
      rw [scan_miss hi h]
      exact scan_upto m (i + 1) j (by omega) (by omega) hj hh
theorem scan_hit2 {keys : List Key} (hn : keys.Nodup) {e : Int × Str} {i j : Nat} (hij : i ≤ j) (hj : j < keys.length) (hh : hit e keys[j] = true) : scanAt keys e i = j := by
  have h1 := scan_upto (j - i) i j rfl hij hj hh
  have h2 : scanAt keys e i < keys.length := by omega
  exact hit_one hn h2 hj (scan_is h2) hh
section
variable {gl : Str → Option D} {T : Str → Option Fn}
def SumsRel (K : Nat) : Option (List Rat) → D → Prop
  | none, z => z = .non
  | some S, z => ∃ us, z = .lst us ∧ All2 (Pr K) S us
theorem All2.imp {α β : Type} {R R' : α → β → Prop} (h : ∀ a b, R a b → R' a b) : ∀ {as : List α} {bs : List β}, All2 R as bs → All2 R' as bs
  | _, _, .nil => .nil
  | _, _, .cons x t => .cons (h _ _ x) (t.imp h)
theorem SumsRel.mono {K K' : Nat} (hk : K ≤ K') : ∀ {o : Option (List Rat)} {z : D}, SumsRel K o z → SumsRel K' o z
  | none, _, h => h
  | some _, _, ⟨us, e, h⟩ => ⟨us, e, h.imp fun _ _ p => p.mono hk⟩
/-- entries drawn from rows -/
inductive Sel (b : Nat) : List Key → List (Nat × Str × Rat) → Prop
  | nil : Sel b [] []
  | skip {k : Key} {ks : List Key} {cs : List (Nat × Str × Rat)} : Sel b ks cs → Sel b (k :: ks) cs
  | take {k : Key} {ks : List Key} {cs : List (Nat × Str × Rat)} {w : Rat} : 0 < w → Bd b w → Sel b ks cs → Sel b (k :: ks) ((k.1, k.2, w) :: cs)
def ceD (c : Nat × Str × Rat) : D := .tup [.int (c.1 : Int), .str c.2.1, qD c.2.2]
theorem ent_ceD {c : Nat × Str × Rat} (h : 0 < c.2.2) : entD (ceD c) = some ((c.1 : Int), c.2.1, c.2.2) := by
  unfold entD ceD
  simp [isFr_qD, qOf_qD, h]
theorem Sel.all {b : Nat} {ks : List Key} {cs : List (Nat × Str × Rat)} (h : Sel b ks cs) : ∀ c ∈ cs, 0 < c.2.2 ∧ Bd b c.2.2 := by
  induction h with
  | nil => simp
  | skip _ ih => exact ih
  | take h1 h2 _ ih =>
    intro c hc
    rcases List.mem_cons.mp hc with rfl | hc
    · exact ⟨h1, h2⟩
    · exact ih c hc
theorem Sel.len {b : Nat} {ks : List Key} {cs : List (Nat × Str × Rat)} (h : Sel b ks cs) : cs.length ≤ ks.length := by
  induction h with
  | nil => exact Nat.le_refl _
  | skip _ ih => rw [List.length_cons]; omega
  | take _ _ _ ih => rw [List.length_cons, List.length_cons]; omega
/-- a drawn certificate is one -/
theorem Sel.run {b : Nat} {keys : List Key} (hn : keys.Nodup) : ∀ {ks : List Key} {cs : List (Nat × Str × Rat)} {i j : Nat}, Sel b ks cs → keys.drop j = ks → i ≤ j → ∃ ps, runC keys i (cs.map ceD) = some ps := by
  intro ks cs i j h
  induction h generalizing i j with
  | nil => intro _ _; exact ⟨[], rfl⟩
  | @skip k ks cs _ ih =>
    intro hj hi
    exact ih (i := i) (j := j + 1) (by rw [← List.drop_drop, hj]; rfl) (by omega)
  | @take k ks cs w h1 h2 _ ih =>
    intro hj hi
    have hl : j < keys.length := by
      rcases Nat.lt_or_ge j keys.length with h | h
      · exact h
      · rw [List.drop_eq_nil_of_le h] at hj; cases hj
    have hk : keys[j] = k := by
      rw [List.drop_eq_getElem_cons hl] at hj
      exact (List.cons.inj hj).1
    have hh : hit ((k.1 : Int), k.2) keys[j] = true := by rw [hk]; simp [hit]
    have hsc := scan_hit2 hn hi hl hh
    obtain ⟨ps, hp⟩ := ih (i := j + 1) (j := j + 1) (by rw [← List.drop_drop, hj]; rfl) (Nat.le_refl _)
    refine ⟨(j, w) :: ps, ?_⟩
    rw [List.map_cons, runC, ent_ceD h1]
    simp only
    rw [hsc, if_pos hl, hp]
    rfl
end
end IL
end
section
set_option maxHeartbeats 1000000
namespace IL
open PySem
end IL
end
section
set_option maxHeartbeats 1000000
namespace IL
open PySem
end IL
end
section
set_option maxHeartbeats 1000000
namespace IL
open PySem
end IL
end
section
set_option maxHeartbeats 1000000
namespace IL
open PySem
def fn__law_is_flag : Fn := ⟨2, 2, false,
    (.cons (.ret (.and (.isi (.loc 0) [.bool]) (.cmp .eq (.loc 0) (.loc 1))))
    .nil)⟩
def fn__law_below : Fn := ⟨2, 2, false,
    (.cons (.ret (.cmp .lt (.bin .mul (.ix (.loc 0) (.lit (.int 0))) (.ix (.loc 1) (.lit (.int 1)))) (.bin .mul (.ix (.loc 1) (.lit (.int 0))) (.ix (.loc 0) (.lit (.int 1))))))
    .nil)⟩
def tabDu : List (Str × Fn) := [("_law_is_flag", fn__law_is_flag), ("_law_below", fn__law_below)]
class LibDu (gl : Str → Option D) (T : Str → Option Fn) : Prop where
  e__law_is_flag : T "_law_is_flag" = some fn__law_is_flag
  e__law_below : T "_law_below" = some fn__law_below
theorem pr_lt {k l : Nat} {p q : Rat} {a b c d : Int} (b0 : 0 < b) (d0 : 0 < d) (e1 : Rat.divInt a b = p) (e2 : Rat.divInt c d = q) : (a * d < c * b) = (p < q) := by
  apply propext
  rw [← e1, ← e2, Rat.divInt_eq_div, Rat.divInt_eq_div]
  have B : (0 : Rat) < (b : Rat) := by exact_mod_cast b0
  have Dp : (0 : Rat) < (d : Rat) := by exact_mod_cast d0
  rw [Rat.div_lt_iff B]
  have e3 : (c : Rat) / (d : Rat) * (b : Rat) = ((c : Rat) * (b : Rat)) / (d : Rat) := by grind
  rw [e3, Rat.lt_div_iff Dp]
  constructor
  · intro h
    exact_mod_cast h
  · intro h
    exact_mod_cast h
section
variable {gl : Str → Option D} {T : Str → Option Fn}
theorem run_below [Lu : LibDu gl T] {n : Nat} (hn : 1 ≤ n) {k l : Nat} {p q : Rat} {x y : D} (hx : Pr k p x) (hy : Pr l q y) (hk : k ≤ 300000) (hl : l ≤ 300000) : callN gl T n "_law_below" .un [x, y] = .ret (.bl (decide (p < q))) false .un := by
  obtain ⟨a, b, rfl, b0, e1, ha, hb⟩ := hx
  obtain ⟨c, d, rfl, d0, e2, hc, hd⟩ := hy
  refine c_eq (c_run Lu.e__law_below (by omega) rfl rfl ?_)
  generalize callN gl T (n - 1) = C
  have m1 := (mo_of ha (by omega)).mul (mo_of hd (by omega))
  have m2 := (mo_of hc (by omega)).mul (mo_of hb (by omega))
  have he := pr_lt (k := k) (l := l) b0 d0 e1 e2
  simp -implicitDefEqProofs [fn__law_below, rd, readS, takeS, readF, takeF, two, late, lateO, setS, hasS, hasL, lenOk, Ex.noio, Exs.noio, Oex.noio, retE, wipeS, backS, m1, m2, he]
theorem Pr.neg {k : Nat} {p : Rat} {a b : Int} (h : Pr k p (.tup [.int a, .int b])) : Pr k (-p) (.tup [.int (-a), .int b]) := by
  obtain ⟨a', b', e, b0, e1, ha, hb⟩ := h
  simp only [D.tup.injEq, List.cons.injEq, D.int.injEq, and_true] at e
  obtain ⟨rfl, rfl⟩ := e
  refine ⟨_, _, rfl, b0, ?_, by omega, hb⟩
  rw [← e1, Rat.divInt_eq_div, Rat.divInt_eq_div]
  push_cast
  grind
end
end IL
end
section
set_option maxHeartbeats 1000000
namespace IL
open PySem
def fn__law_tree : Fn := ⟨4, 8, true,
    (.cons (.set 4 (.cio "_law_draw" 0 (.cons false (.lit (.int 8)) .nil)))
    (.cons (.iff (.or (.cmp .eq (.loc 2) (.lit (.int 1))) (.or (.cmp .eq (.loc 3) (.lit (.int 1))) (.cmp .lt (.loc 4) (.lit (.int 2))))) (.cons (.ret (.cio "_law_leaf" 0 (.cons false (.loc 1) .nil)))
    .nil) .nil)
    (.cons (.iff (.or (.cmp .eq (.loc 2) (.lit (.int 2))) (.cmp .lt (.loc 4) (.lit (.int 4)))) (.cons (.ret (.tup (.cons false (.lit (.str "not")) (.cons false (.cio "_law_tree" 0 (.cons false (.loc 1) (.cons false (.bin .sub (.loc 2) (.lit (.int 1))) (.cons false (.bin .sub (.loc 3) (.lit (.int 1))) .nil)))) .nil))))
    .nil) .nil)
    (.cons (.set 5 (.bin .add (.lit (.int 1)) (.cio "_law_draw" 0 (.cons false (.bin .sub (.loc 2) (.lit (.int 2))) .nil))))
    (.cons (.set 6 (.cio "_law_tree" 0 (.cons false (.loc 1) (.cons false (.loc 5) (.cons false (.bin .sub (.loc 3) (.lit (.int 1))) .nil)))))
    (.cons (.set 7 (.cio "_law_tree" 0 (.cons false (.loc 1) (.cons false (.bin .sub (.bin .sub (.loc 2) (.lit (.int 1))) (.loc 5)) (.cons false (.bin .sub (.loc 3) (.lit (.int 1))) .nil)))))
    (.cons (.ret (.tup (.cons false (.ix (.lst (.cons false (.lit (.str "and")) (.cons false (.lit (.str "or")) .nil))) (.bin .mod (.loc 4) (.lit (.int 2)))) (.cons false (.loc 6) (.cons false (.loc 7) .nil)))))
    .nil)))))))⟩
def fn__law_formula : Fn := ⟨3, 3, true,
    (.cons (.ret (.cio "_law_tree" 0 (.cons false (.loc 1) (.cons false (.bin .add (.lit (.int 1)) (.cio "_law_draw" 0 (.cons false (.bin .sub (.bin .mul (.lit (.int 4)) (.loc 2)) (.lit (.int 1))) .nil))) (.cons false (.lit (.int 6)) .nil)))))
    .nil)⟩
def fn__law_cases : Fn := ⟨1, 4, false,
    (.cons (.set 1 (.lst .nil))
    (.cons (.forr (.nm 2) (.rng (.bin .shl (.lit (.int 1)) (.loc 0))) (.cons (.app 1 (.blt .tuple (.cons false (.lc [3] (.nm 3) (.rng (.loc 0)) .no (.cmp .eq (.bin .mod (.blt .int (.cons false (.bin .shr (.loc 2) (.bin .sub (.bin .sub (.loc 0) (.lit (.int 1))) (.loc 3))) .nil)) (.lit (.int 2))) (.lit (.int 1)))) .nil)))
    .nil))
    (.cons (.ret (.loc 1))
    .nil)))⟩
def tabLb : List (Str × Fn) := [("_law_tree", fn__law_tree), ("_law_formula", fn__law_formula), ("_law_cases", fn__law_cases)]
class LibLb (gl : Str → Option D) (T : Str → Option Fn) : Prop where
  e__law_tree : T "_law_tree" = some fn__law_tree
  e__law_formula : T "_law_formula" = some fn__law_formula
  e__law_cases : T "_law_cases" = some fn__law_cases
theorem rng_L (m : Nat) : rngL 0 (m : Int) = (List.range m).map fun j : Nat => D.int (j : Int) := by
  unfold rngL
  simp
section
variable {gl : Str → Option D} {T : Str → Option Fn}
theorem c_tree [Lk : LibLb gl T] [Ln : LibLn gl T] [Ld : LibDraw gl T] {ns : List Str} (h1 : 1 ≤ ns.length) (h4 : ns.length ≤ 4) : ∀ (d n : Nat), d + 3 ≤ n → 1 ≤ d → d ≤ 100 → ∀ {p : Bool} {xs : List D} {t : Nat}, Pl t xs → ∀ {room : Nat}, 1 ≤ room → room ≤ 400 → t + 2 * room ≤ 91000 → ∀ {Q : D → Bool → Slot → Prop} {X : Str → Option D → Slot → Prop},
    (∀ f xs', FmB ns room d f → Pl (t + 2 * room) xs' → Q (fmD f) false (.ow p xs')) → wC (callN gl T n "_law_tree" (.ow p xs) [nsD ns, .int room, .int d]) Q X
  | 0, _, _, h, _, _, _, _, _, _, _, _, _, _, _, _ => absurd h (by omega)
  | d + 1, n, hn, _, hd100, p, xs, t, hp, room, r1, r400, ht, Q, X, k => by
    refine c_io Lk.e__law_tree (by omega) rfl rfl ?_
    have hdr := fun {xs : List D} {t : Nat} (hp : Pl t xs) (ht : t ≤ 100000000000000) {m : Int} (m0 : 0 < m) (m1 : m.natAbs < 2 ^ 200) {p Q X} => c_drw (gl := gl) (T := T) (n := n - 1) (by omega) (p := p) hp ht m0 m1 (Q := Q) (X := X)
    have hle := fun {xs : List D} {t : Nat} (hp : Pl t xs) (ht : t ≤ 1000000) {p Q X} => c_leaf (gl := gl) (T := T) (n := n - 1) (by omega) (p := p) h1 h4 hp ht (Q := Q) (X := X)
    have htr := fun (hd : 1 ≤ d) {xs : List D} {t : Nat} (hp : Pl t xs) {room : Nat} (r1 : 1 ≤ room) (r400 : room ≤ 400) (ht : t + 2 * room ≤ 91000) {p Q X} => c_tree h1 h4 d (n - 1) (by omega) hd (by omega) (p := p) hp r1 r400 ht (Q := Q) (X := X)
    generalize callN gl T (n - 1) = C at *
    unfold fn__law_tree
    refine s_cons ?_
    simp -implicitDefEqProofs [-rSs_cons, rd, readS, takeS, readF, takeF, two, late, lateO, setS, hasS, hasL, lenOk, Ex.noio, Exs.noio, Oex.noio, retE, wipeS, backS]
    refine hdr hp (by omega) (by decide) (by decide) fun kd xs1 k0 k1 p1 => ?_
    simp -implicitDefEqProofs [-rSs_cons, rd, readS, takeS, readF, takeF, two, late, lateO, setS, hasS, hasL, lenOk, Ex.noio, Exs.noio, Oex.noio, retE, wipeS, backS]
    refine s_cons ?_
    have fin : ∀ f xs', FmB ns 1 1 f → Pl (t + 1 + 1) xs' → Q (fmD f) false (.ow p xs') := fun f xs' b p' => k f xs' (b.mono r1 (by omega)) (p'.mono (by omega))
    by_cases c1 : room = 1
    · have n1 : (room : Int) = 1 := by omega
      simp -implicitDefEqProofs [rd, readS, takeS, readF, takeF, two, late, lateO, setS, hasS, hasL, lenOk, Ex.noio, Exs.noio, Oex.noio, retE, wipeS, backS, n1]
      exact hle p1 (by omega) fin
    have n1 : ¬ (room : Int) = 1 := by omega
    by_cases c2 : d = 0
    · have n2 : (d : Int) = 0 := by omega
      simp -implicitDefEqProofs [rd, readS, takeS, readF, takeF, two, late, lateO, setS, hasS, hasL, lenOk, Ex.noio, Exs.noio, Oex.noio, retE, wipeS, backS, n1, n2, c1, c2]
      exact hle p1 (by omega) fin
    have n2 : ¬ (d : Int) + 1 = 1 := by omega
    by_cases c3 : kd < 2
    · simp -implicitDefEqProofs [rd, readS, takeS, readF, takeF, two, late, lateO, setS, hasS, hasL, lenOk, Ex.noio, Exs.noio, Oex.noio, retE, wipeS, backS, n1, n2, c1, c2, c3]
      exact hle p1 (by omega) fin
    simp -implicitDefEqProofs [-rSs_cons, rd, readS, takeS, readF, takeF, two, late, lateO, setS, hasS, hasL, lenOk, Ex.noio, Exs.noio, Oex.noio, retE, wipeS, backS, n1, n2, c3, c1, c2]
    refine s_cons ?_
    have er : (room : Int) - 1 = ((room - 1 : Nat) : Int) := by omega
    have ed : (d : Int) + 1 - 1 = (d : Int) := by omega
    have fin2 : ∀ f xs', FmB ns (room - 1) d f → Pl (t + 1 + 2 * (room - 1)) xs' → Q (.tup [.str "not", fmD f]) false (.ow p xs') := fun f xs' b p' => k (.not f) xs' (b.not.mono (by omega) (by omega)) (p'.mono (by omega))
    have l2 : 2 ≤ limN := by decide
    have l3 : 3 ≤ limN := by decide
    by_cases c4 : room = 2
    · have n4 : (room : Int) = 2 := by omega
      have e1 : (2 : Int) - 1 = ((1 : Nat) : Int) := rfl
      simp -implicitDefEqProofs [rd, readS, takeS, readF, takeF, two, late, lateO, setS, hasS, hasL, lenOk, Ex.noio, Exs.noio, Oex.noio, retE, wipeS, backS, n4, c4, ed, l2]
      rw [c4] at fin2
      exact htr (by omega) p1 (room := 1) (by omega) (by omega) (by omega) fin2
    have n4 : ¬ (room : Int) = 2 := by omega
    by_cases c5 : kd < 4
    · simp -implicitDefEqProofs [rd, readS, takeS, readF, takeF, two, late, lateO, setS, hasS, hasL, lenOk, Ex.noio, Exs.noio, Oex.noio, retE, wipeS, backS, n4, c4, c5, ed, l2, er]
      exact htr (by omega) p1 (room := room - 1) (by omega) (by omega) (by omega) fin2
    simp -implicitDefEqProofs [-rSs_cons, rd, readS, takeS, readF, takeF, two, late, lateO, setS, hasS, hasL, lenOk, Ex.noio, Exs.noio, Oex.noio, retE, wipeS, backS, n4, c4, c5]
    refine s_cons ?_
    simp -implicitDefEqProofs [-rSs_cons, rd, readS, takeS, readF, takeF, two, late, lateO, setS, hasS, hasL, lenOk, Ex.noio, Exs.noio, Oex.noio, retE, wipeS, backS]
    refine hdr p1 (by omega) (by omega) (by omega) fun r xs2 r0 r1' p2 => ?_
    obtain ⟨a, ha⟩ : ∃ a : Nat, 1 + r = (a : Int) := ⟨(1 + r).toNat, by omega⟩
    have eb : (room : Int) - 1 - (a : Int) = ((room - 1 - a : Nat) : Int) := by omega
    simp -implicitDefEqProofs [-rSs_cons, rd, readS, takeS, readF, takeF, two, late, lateO, setS, hasS, hasL, lenOk, Ex.noio, Exs.noio, Oex.noio, retE, wipeS, backS, ha]
    refine s_cons ?_
    simp -implicitDefEqProofs [-rSs_cons, rd, readS, takeS, readF, takeF, two, late, lateO, setS, hasS, hasL, lenOk, Ex.noio, Exs.noio, Oex.noio, retE, wipeS, backS, ed]
    refine htr (by omega) p2 (room := a) (by omega) (by omega) (by omega) fun f xs3 bf p3 => ?_
    simp -implicitDefEqProofs [-rSs_cons, rd, readS, takeS, readF, takeF, two, late, lateO, setS, hasS, hasL, lenOk, Ex.noio, Exs.noio, Oex.noio, retE, wipeS, backS, ed]
    refine s_cons ?_
    simp -implicitDefEqProofs [-rSs_cons, rd, readS, takeS, readF, takeF, two, late, lateO, setS, hasS, hasL, lenOk, Ex.noio, Exs.noio, Oex.noio, retE, wipeS, backS, ed, eb]
    refine htr (by omega) p3 (room := room - 1 - a) (by omega) (by omega) (by omega) fun g xs4 bg p4 => ?_
    have h2 : kd.fmod 2 = 0 ∨ kd.fmod 2 = 1 := by
      have h1 := Int.fmod_nonneg_of_pos kd (show (0 : Int) < 2 by decide)
      have h2 := Int.fmod_lt_of_pos kd (show (0 : Int) < 2 by decide)
      omega
    have d2 : divOk kd 2 = true := Lo.div (lo_of (by decide)) (by decide)
    have q4 := p4.mono (show t + 1 + 1 + 2 * a + 2 * (room - 1 - a) ≤ t + 2 * room by omega)
    rcases h2 with h2 | h2
    · simp -implicitDefEqProofs [rd, readS, takeS, readF, takeF, two, late, lateO, setS, hasS, hasL, lenOk, Ex.noio, Exs.noio, Oex.noio, retE, wipeS, backS, h2, l2, l3, d2]
      exact k (.and f g) _ ((bf.and bg).mono (by omega) (by omega)) q4
    · simp -implicitDefEqProofs [rd, readS, takeS, readF, takeF, two, late, lateO, setS, hasS, hasL, lenOk, Ex.noio, Exs.noio, Oex.noio, retE, wipeS, backS, h2, l2, l3, d2]
      exact k (.or f g) _ ((bf.or bg).mono (by omega) (by omega)) q4
theorem c_formulaB [Lk : LibLb gl T] [Ln : LibLn gl T] [Ld : LibDraw gl T] {n : Nat} (hn : 10 ≤ n) {p : Bool} {xs : List D} {t : Nat} {ns : List Str} (h1 : 1 ≤ ns.length) (h4 : ns.length ≤ 4) (hp : Pl t xs) (ht : t ≤ 90000) {m : Nat} (m1 : 1 ≤ m) (m2 : m ≤ 100) {Q : D → Bool → Slot → Prop} {X : Str → Option D → Slot → Prop}
    (k : ∀ f xs', FmB ns (4 * m - 1) 6 f → Pl (t + 8 * m) xs' → Q (fmD f) false (.ow p xs')) : wC (callN gl T n "_law_formula" (.ow p xs) [nsD ns, .int m]) Q X := by
  refine c_io Lk.e__law_formula (by omega) rfl rfl ?_
  have hdr := fun {xs : List D} {t : Nat} (hp : Pl t xs) (ht : t ≤ 100000000000000) {m : Int} (m0 : 0 < m) (m1 : m.natAbs < 2 ^ 200) {p Q X} => c_drw (gl := gl) (T := T) (n := n - 1) (by omega) (p := p) hp ht m0 m1 (Q := Q) (X := X)
  have htr := fun {xs : List D} {t : Nat} (hp : Pl t xs) {room : Nat} (r1 : 1 ≤ room) (r400 : room ≤ 400) (ht : t + 2 * room ≤ 91000) {p Q X} => c_tree (gl := gl) (T := T) h1 h4 6 (n - 1) (by omega) (by decide) (by decide) (p := p) hp r1 r400 ht (Q := Q) (X := X)
  generalize callN gl T (n - 1) = C at *
  unfold fn__law_formula
  have mk : mulOk 4 (m : Int) = true := by
    unfold mulOk
    have : smallI 4 = true := by decide
    rw [this]; rfl
  refine s_cons ?_
  simp -implicitDefEqProofs [-rSs_cons, rd, readS, takeS, readF, takeF, two, late, lateO, setS, hasS, hasL, lenOk, Ex.noio, Exs.noio, Oex.noio, retE, wipeS, backS, mk]
  refine hdr hp (by omega) (by omega) (by omega) fun r xs1 r0 r1 p1 => ?_
  obtain ⟨a, ha⟩ : ∃ a : Nat, 1 + r = (a : Int) := ⟨(1 + r).toNat, by omega⟩
  simp -implicitDefEqProofs [-rSs_cons, rd, readS, takeS, readF, takeF, two, late, lateO, setS, hasS, hasL, lenOk, Ex.noio, Exs.noio, Oex.noio, retE, wipeS, backS, ha]
  refine htr p1 (room := a) (by omega) (by omega) (by omega) fun f xs2 bf p2 => ?_
  exact k f _ (bf.mono (by omega) (by omega)) (p2.mono (by omega))
theorem csL_bit (m : Nat) (hm : m ≤ 4) (k : Nat) (hk : k < 2 ^ m) : (csL m)[k]? = some ((List.range m).map fun j => decide (((k : Int) / 2 ^ (m - 1 - j)).fmod 2 = 1)) := by
  have : m = 0 ∨ m = 1 ∨ m = 2 ∨ m = 3 ∨ m = 4 := by omega
  rcases this with rfl | rfl | rfl | rfl | rfl
  · revert k; decide
  · revert k; decide
  · revert k; decide
  · revert k; decide
  · revert k; decide
theorem run__law_casesB [Lk : LibLb gl T] {n : Nat} (hn : 1 ≤ n) {m : Nat} (hm : m ≤ 4) : callN gl T n "_law_cases" .un [.int m] = .ret (.lst ((csL m).map csD)) true .un := by
  refine c_eq (c_run Lk.e__law_cases (by omega) rfl rfl ?_)
  generalize callN gl T (n - 1) = C
  have hsh : binD .shl (.int 1) (.int (m : Int)) = some (.int ((2 ^ m : Nat) : Int), false) := by
    have : m = 0 ∨ m = 1 ∨ m = 2 ∨ m = 3 ∨ m = 4 := by omega
    rcases this with rfl | rfl | rfl | rfl | rfl <;> rfl
  have h16 : 2 ^ m ≤ 16 := Nat.le_trans (Nat.pow_le_pow_right (by decide) hm) (by decide)
  have hcl := csL_len m
  have hbit := csL_bit m hm
  have lim : 1000 ≤ limN := by decide
  obtain ⟨M, hM⟩ : ∃ M, M = 2 ^ m := ⟨_, rfl⟩
  rw [← hM] at hsh h16 hcl hbit
  unfold fn__law_cases
  refine s_cons ?_
  simp -implicitDefEqProofs [-rSs_cons, rd, readS, takeS, readF, takeF, two, late, lateO, setS, hasS, hasL, lenOk, Ex.noio, Exs.noio, Oex.noio, retE, wipeS, backS]
  obtain ⟨I, hI⟩ : ∃ I : Nat → Sg → Prop, I = fun k s => ∃ x2 x3 : Slot, x2.pinned = false ∧ x3.pinned = false ∧ s = [.sh (.int m), .ow false (((csL m).take k).map csD), x2, x3] := ⟨_, rfl⟩
  refine s_cut (I M) ?_ ?_
  · simp -implicitDefEqProofs [-rSs_cons, rd, readS, takeS, readF, takeF, two, late, lateO, setS, hasS, hasL, lenOk, Ex.noio, Exs.noio, Oex.noio, retE, wipeS, backS, hsh, rngD_nat (m := M) (by omega)]
    refine s_loop I _ 0 _ (by rw [hI]; exact ⟨.un, .un, rfl, rfl, by simp⟩) ?_ (fun s h => by rw [rngL_len'] at h; simpa using h)
    intro k x s hx hs
    obtain ⟨rfl, hk⟩ := rngL_get hx
    rw [hI] at hs
    obtain ⟨x2, x3, h2, h3, rfl⟩ := hs
    have hb := hbit k hk
    have lrm : (List.range m).length ≤ limN := by rw [List.length_range]; omega
    simp -implicitDefEqProofs [-rSs_cons, rd, readS, takeS, readF, takeF, two, late, lateO, setS, hasS, hasL, lenOk, Ex.noio, Exs.noio, Oex.noio, retE, wipeS, backS, asg, h2]
    refine s_cons ?_
    simp -implicitDefEqProofs [-rSs_cons, rd, readS, takeS, readF, takeF, two, late, lateO, setS, hasS, hasL, lenOk, Ex.noio, Exs.noio, Oex.noio, retE, wipeS, backS, rngD_nat (m := m) (by omega)]
    rw [show rngL 0 (m : Int) = (List.range m).map fun j : Nat => D.int j from rng_L m]
    refine e_map (e := fun j : Nat => D.int j) (f := fun j => .bl (decide (((k : Int) / 2 ^ (m - 1 - j)).fmod 2 = 1))) lrm ?_ ?_
    · intro j hj acc hacc
      have hj' : j < m := List.mem_range.mp hj
      have e1 : (m : Int) - 1 - (j : Int) = ((m - 1 - j : Nat) : Int) := by omega
      have hs2 : binD .shr (.int (k : Int)) (.int ((m - 1 - j : Nat) : Int)) = some (.int ((k : Int) / 2 ^ (m - 1 - j)), false) := by
        show (if (0 : Int) ≤ ((m - 1 - j : Nat) : Int) then some (D.int ((k : Int) / 2 ^ ((m - 1 - j : Nat) : Int).toNat), false) else none) = _
        rw [if_pos (by omega)]; rfl
      have d2 : ∀ i : Int, divOk i 2 = true := fun i => Lo.div (lo_of (by decide)) (by decide)
      simp -implicitDefEqProofs [rd, readS, takeS, readF, takeF, two, late, lateO, setS, hasS, hasL, lenOk, Ex.noio, Exs.noio, Oex.noio, retE, wipeS, backS, asg, h3, e1, hs2, d2]
      refine wE_app hacc ?_
      simp [wipeS]
      rfl
    have ecs : D.tup ((List.range m).map fun j => D.bl (decide (((k : Int) / 2 ^ (m - 1 - j)).fmod 2 = 1))) = csD ((List.range m).map fun j => decide (((k : Int) / 2 ^ (m - 1 - j)).fmod 2 = 1)) := by
      unfold csD
      rw [List.map_map]; rfl
    have htk : (csL m).take (k + 1) = (csL m).take k ++ [(List.range m).map fun j => decide (((k : Int) / 2 ^ (m - 1 - j)).fmod 2 = 1)] := by
      rw [List.take_succ, hb]; rfl
    have hap := fun d => appS_ge (s := [Slot.sh (D.int ↑m), Slot.ow false (List.map csD (List.take k (csL m))), Slot.sh (D.int ↑k), x3]) (i := 1) (d := d) rfl (by rw [List.length_map, List.length_take]; omega)
    rw [List.map_take] at hap
    simp -implicitDefEqProofs [-rSs_cons, rd, readS, takeS, readF, takeF, two, late, lateO, setS, hasS, hasL, lenOk, Ex.noio, Exs.noio, Oex.noio, retE, wipeS, backS, hap]
    rw [hI]
    exact ⟨.sh (.int k), x3, rfl, h3, by rw [htk, List.map_append, List.map_take, List.map_cons, List.map_nil, ← ecs]⟩
  intro s hs
  rw [hI] at hs
  obtain ⟨x2, x3, h2, h3, rfl⟩ := hs
  rw [← hcl, List.take_length]
  simp -implicitDefEqProofs [rd, readS, takeS, readF, takeF, two, late, lateO, setS, hasS, hasL, lenOk, Ex.noio, Exs.noio, Oex.noio, retE, wipeS, backS]
theorem lf_of_lb [Lk : LibLb gl T] [Ln : LibLn gl T] [Ld : LibDraw gl T] : LibLf gl T where
  toLibLn := Ln
  fm := by
    intro n hn p xs t ns h1 h4 hp ht m m1 m2 Q X k
    exact c_formulaB (by omega) h1 h4 hp ht m1 m2 fun f xs' b p => k f xs' (b.mono (by omega) (by omega)) (p.mono (by omega))
  cs := by
    intro n hn m hm
    exact run__law_casesB (by omega) hm
end
end IL
end
section
set_option maxHeartbeats 1000000
namespace IL
open PySem
structure Drew {α : Type} (Pa : α → Prop) (e : α → D) (st : List D → Sg) (acc : List D) (t : Nat) (acc' : List D) (s' : Sg) : Prop where
  ex : ∃ (a : α) (xs' : List D), Pa a ∧ Pl t xs' ∧ acc' = acc ++ [e a] ∧ s' = st xs'
/-- a comprehension whose turns draw -/
theorem e_draws {α : Type} {b : D → List D → Sg → R (List D)} {e : α → D} {Pa : α → Prop} {st : List D → Sg} {c t0 : Nat} {Q : List D → Sg → Prop} {X : XP} {L xs0 : List D} (hl : L.length ≤ 100000) (hp : Pl t0 xs0)
    (h : ∀ (x : D), x ∈ L → ∀ (i : Nat) (acc xs : List D), i < L.length → acc.length < limN → Pl (t0 + c * i) xs → wE (b x acc (st xs)) (Drew Pa e st acc (t0 + c * i + c)) X)
    (k : ∀ (as : List α) (xs : List D), as.length = L.length → (∀ a ∈ as, Pa a) → Pl (t0 + c * L.length) xs → Q (as.map e) (st xs)) : wE (lcR b L [] (st xs0)) Q X := by
  refine e_lcI (fun ds acc s' => ∃ (as : List α) (ds0 : List D) (xs : List D), L = ds0 ++ ds ∧ as.length = ds0.length ∧ acc = as.map e ∧ (∀ a ∈ as, Pa a) ∧ Pl (t0 + c * as.length) xs ∧ s' = st xs) _ _ _ ⟨[], [], xs0, rfl, rfl, rfl, by simp, hp, rfl⟩ ?_ ?_
  · rintro x ds acc s' ⟨as, ds0, xs, e1, e2, rfl, ha, hp, rfl⟩
    have hlen := congrArg List.length e1
    rw [List.length_append, List.length_cons] at hlen
    have := h x (by rw [e1]; simp) as.length (as.map e) xs (by omega) (by rw [List.length_map]; exact Nat.lt_of_lt_of_le (show as.length < 100001 by omega) (by decide)) hp
    revert this
    generalize b x (as.map e) (st xs) = r
    cases r with
    | bad => simp only [wE_bad]; exact fun h => h
    | ex c x s => simp only [wE_ex]; exact fun h => h
    | ok a s =>
      simp only [wE_ok]
      rintro ⟨a, xs', pa, hp', rfl, rfl⟩
      refine ⟨as ++ [a], ds0 ++ [x], xs', by rw [e1]; simp, by simp [e2], by simp, fun y hy => ?_, by rw [List.length_append, List.length_singleton, Nat.mul_add, Nat.mul_one, ← Nat.add_assoc]; exact hp', rfl⟩
      rcases List.mem_append.mp hy with hy | hy
      · exact ha y hy
      · rw [List.mem_singleton.mp hy]; exact pa
  · rintro acc s' ⟨as, ds0, xs, e1, e2, rfl, ha, hp, rfl⟩
    rw [List.append_nil] at e1
    subst e1
    exact k as xs e2 ha (by rw [← e2]; exact hp)
end IL
end
section
set_option maxHeartbeats 1000000
namespace IL
open PySem
def fn__law_wide_span : Fn := ⟨1, 5, true,
    (.cons (.set 1 (.cio "_law_draw" 0 (.cons false (.lit (.int 6)) .nil)))
    (.cons (.set 2 (.bin .add (.lit (.int 1)) (.cio "_law_draw" 0 (.cons false (.lit (.int 60)) .nil))))
    (.cons (.iff (.cmp .eq (.loc 1) (.lit (.int 0))) (.cons (.set 2 (.bin .sub (.bin .pow (.lit (.int 10)) (.lit (.int 60))) (.cio "_law_draw" 0 (.cons false (.bin .pow (.lit (.int 10)) (.lit (.int 12))) .nil))))
    .nil) .nil)
    (.cons (.iff (.cmp .eq (.loc 1) (.lit (.int 1))) (.cons (.set 2 (.bin .add (.lit (.int 1)) (.cio "_law_draw" 0 (.cons false (.bin .pow (.lit (.int 10)) (.lit (.int 17))) .nil))))
    .nil) .nil)
    (.cons (.set 3 (.cio "_law_draw" 0 (.cons false (.bin .add (.loc 2) (.lit (.int 1))) .nil)))
    (.cons (.set 4 (.cio "_law_draw" 0 (.cons false (.bin .add (.loc 2) (.lit (.int 1))) .nil)))
    (.cons (.iff (.cmp .eq (.loc 1) (.lit (.int 2))) (.cons (.set 3 (.lit (.int 0)))
    .nil) .nil)
    (.cons (.iff (.cmp .eq (.loc 1) (.lit (.int 3))) (.cons (.set 4 (.loc 2))
    .nil) .nil)
    (.cons (.ret (.tup (.cons false (.call "_law_lowest" (.cons false (.blt .min2 (.cons false (.loc 3) (.cons false (.loc 4) .nil))) (.cons false (.loc 2) .nil))) (.cons false (.call "_law_lowest" (.cons false (.blt .max2 (.cons false (.loc 3) (.cons false (.loc 4) .nil))) (.cons false (.loc 2) .nil))) .nil))))
    .nil)))))))))⟩
def fn__law_less_of : Fn := ⟨2, 2, false,
    (.cons (.iff (.call "_law_below" (.cons false (.loc 1) (.cons false (.loc 0) .nil))) (.cons (.ret (.loc 1))
    .nil) .nil)
    (.cons (.ret (.loc 0))
    .nil))⟩
def fn__law_more_of : Fn := ⟨2, 2, false,
    (.cons (.iff (.call "_law_below" (.cons false (.loc 0) (.cons false (.loc 1) .nil))) (.cons (.ret (.loc 1))
    .nil) .nil)
    (.cons (.ret (.loc 0))
    .nil))⟩
def fn__law_and_pair : Fn := ⟨2, 3, false,
    (.cons (.set 2 (.call "_law_plus" (.cons false (.call "_law_plus" (.cons false (.ix (.loc 0) (.lit (.int 0))) (.cons false (.ix (.loc 1) (.lit (.int 0))) .nil))) (.cons false (.tup (.cons false (.neg (.lit (.int 1))) (.cons false (.lit (.int 1)) .nil))) .nil))))
    (.cons (.ret (.tup (.cons false (.call "_law_more_of" (.cons false (.tup (.cons false (.lit (.int 0)) (.cons false (.lit (.int 1)) .nil))) (.cons false (.loc 2) .nil))) (.cons false (.call "_law_less_of" (.cons false (.ix (.loc 0) (.lit (.int 1))) (.cons false (.ix (.loc 1) (.lit (.int 1))) .nil))) .nil))))
    .nil))⟩
def fn__law_or_pair : Fn := ⟨2, 3, false,
    (.cons (.set 2 (.call "_law_plus" (.cons false (.ix (.loc 0) (.lit (.int 1))) (.cons false (.ix (.loc 1) (.lit (.int 1))) .nil))))
    (.cons (.ret (.tup (.cons false (.call "_law_more_of" (.cons false (.ix (.loc 0) (.lit (.int 0))) (.cons false (.ix (.loc 1) (.lit (.int 0))) .nil))) (.cons false (.call "_law_less_of" (.cons false (.tup (.cons false (.lit (.int 1)) (.cons false (.lit (.int 1)) .nil))) (.cons false (.loc 2) .nil))) .nil))))
    .nil))⟩
def fn__law_not_pair : Fn := ⟨1, 1, false,
    (.cons (.ret (.tup (.cons false (.call "_law_plus" (.cons false (.tup (.cons false (.lit (.int 1)) (.cons false (.lit (.int 1)) .nil))) (.cons false (.tup (.cons false (.neg (.ix (.ix (.loc 0) (.lit (.int 1))) (.lit (.int 0)))) (.cons false (.ix (.ix (.loc 0) (.lit (.int 1))) (.lit (.int 1))) .nil))) .nil))) (.cons false (.call "_law_plus" (.cons false (.tup (.cons false (.lit (.int 1)) (.cons false (.lit (.int 1)) .nil))) (.cons false (.tup (.cons false (.neg (.ix (.ix (.loc 0) (.lit (.int 0))) (.lit (.int 0)))) (.cons false (.ix (.ix (.loc 0) (.lit (.int 0))) (.lit (.int 1))) .nil))) .nil))) .nil))))
    .nil)⟩
def fn__law_pair : Fn := ⟨1, 1, false,
    (.cons (.ret (.and (.isi (.loc 0) [.tuple]) (.and (.cmp .eq (.blt .len (.cons false (.loc 0) .nil)) (.lit (.int 2))) (.and (.call "_law_fraction" (.cons false (.ix (.loc 0) (.lit (.int 0))) .nil)) (.call "_law_fraction" (.cons false (.ix (.loc 0) (.lit (.int 1))) .nil))))))
    .nil)⟩
def fn__law_same_pair : Fn := ⟨2, 2, false,
    (.cons (.ret (.and (.call "_law_same" (.cons false (.ix (.loc 0) (.lit (.int 0))) (.cons false (.ix (.loc 1) (.lit (.int 0))) .nil))) (.call "_law_same" (.cons false (.ix (.loc 0) (.lit (.int 1))) (.cons false (.ix (.loc 1) (.lit (.int 1))) .nil)))))
    .nil)⟩
def fn__law_model : Fn := ⟨3, 4, false,
    (.cons (.iff (.cmp .eq (.ix (.loc 2) (.lit (.int 0))) (.lit (.str "yes"))) (.cons (.ret (.tup (.cons false (.tup (.cons false (.lit (.int 1)) (.cons false (.lit (.int 1)) .nil))) (.cons false (.tup (.cons false (.lit (.int 1)) (.cons false (.lit (.int 1)) .nil))) .nil))))
    .nil) .nil)
    (.cons (.iff (.cmp .eq (.ix (.loc 2) (.lit (.int 0))) (.lit (.str "no"))) (.cons (.ret (.tup (.cons false (.tup (.cons false (.lit (.int 0)) (.cons false (.lit (.int 1)) .nil))) (.cons false (.tup (.cons false (.lit (.int 0)) (.cons false (.lit (.int 1)) .nil))) .nil))))
    .nil) .nil)
    (.cons (.iff (.cmp .eq (.ix (.loc 2) (.lit (.int 0))) (.lit (.str "is"))) (.cons (.ret (.ix (.loc 1) (.mth .index (.loc 0) (.cons false (.ix (.loc 2) (.lit (.int 1))) .nil))))
    .nil) .nil)
    (.cons (.set 3 (.call "_law_model" (.cons false (.loc 0) (.cons false (.loc 1) (.cons false (.ix (.loc 2) (.lit (.int 1))) .nil)))))
    (.cons (.iff (.cmp .eq (.ix (.loc 2) (.lit (.int 0))) (.lit (.str "not"))) (.cons (.ret (.call "_law_not_pair" (.cons false (.loc 3) .nil)))
    .nil) .nil)
    (.cons (.iff (.cmp .eq (.ix (.loc 2) (.lit (.int 0))) (.lit (.str "and"))) (.cons (.ret (.call "_law_and_pair" (.cons false (.loc 3) (.cons false (.call "_law_model" (.cons false (.loc 0) (.cons false (.loc 1) (.cons false (.ix (.loc 2) (.lit (.int 2))) .nil)))) .nil))))
    .nil) .nil)
    (.cons (.ret (.call "_law_or_pair" (.cons false (.loc 3) (.cons false (.call "_law_model" (.cons false (.loc 0) (.cons false (.loc 1) (.cons false (.ix (.loc 2) (.lit (.int 2))) .nil)))) .nil))))
    .nil)))))))⟩
def fn_law : Fn := ⟨1, 8, false,
    (.cons (.set 1 (.call "_law_pool" (.cons false (.loc 0) .nil)))
    (.cons (.set 2 (.bin .add (.lit (.int 1)) (.cio "_law_draw" 1 (.cons false (.lit (.int 30)) .nil))))
    (.cons (.set 3 (.cio "_law_names" 1 (.cons false (.lit (.int 4)) .nil)))
    (.cons (.set 4 (.blt .tuple (.cons false (.lc [7] (.nm 7) (.seq (.loc 3)) .no (.cio "_law_wide_span" 1 .nil)) .nil)))
    (.cons (.set 5 (.cio "_law_tree" 1 (.cons false (.loc 3) (.cons false (.loc 2) (.cons false (.lit (.int 12)) .nil)))))
    (.cons (.set 6 (.call "plain" (.cons false (.loc 3) (.cons false (.loc 4) (.cons false (.loc 5) .nil)))))
    (.cons (.ret (.and (.call "_law_pair" (.cons false (.loc 6) .nil)) (.call "_law_same_pair" (.cons false (.loc 6) (.cons false (.call "_law_model" (.cons false (.loc 3) (.cons false (.loc 4) (.cons false (.loc 5) .nil)))) .nil)))))
    .nil)))))))⟩
def tabK75 : List (Str × Fn) := [("_law_wide_span", fn__law_wide_span), ("_law_less_of", fn__law_less_of), ("_law_more_of", fn__law_more_of), ("_law_and_pair", fn__law_and_pair), ("_law_or_pair", fn__law_or_pair), ("_law_not_pair", fn__law_not_pair), ("_law_pair", fn__law_pair), ("_law_same_pair", fn__law_same_pair), ("_law_model", fn__law_model), ("law", fn_law)]
class LibK75 (gl : Str → Option D) (T : Str → Option Fn) : Prop where
  e__law_wide_span : T "_law_wide_span" = some fn__law_wide_span
  e__law_less_of : T "_law_less_of" = some fn__law_less_of
  e__law_more_of : T "_law_more_of" = some fn__law_more_of
  e__law_and_pair : T "_law_and_pair" = some fn__law_and_pair
  e__law_or_pair : T "_law_or_pair" = some fn__law_or_pair
  e__law_not_pair : T "_law_not_pair" = some fn__law_not_pair
  e__law_pair : T "_law_pair" = some fn__law_pair
  e__law_same_pair : T "_law_same_pair" = some fn__law_same_pair
  e__law_model : T "_law_model" = some fn__law_model
  e_law : T "law" = some fn_law
/-- a pair of unreduced fractions -/
def Pw (k : Nat) (p : Rat × Rat) (d : D) : Prop := ∃ x y, d = .tup [x, y] ∧ Pr k p.1 x ∧ Pr k p.2 y
theorem Pr.two {k : Nat} {q : Rat} {d : D} (h : Pr k q d) : ∃ a b : Int, d = .tup [.int a, .int b] := let ⟨a, b, e, _⟩ := h; ⟨a, b, e⟩
theorem Bw.pw {k : Nat} {p : Rat × Rat} (h : Bw k p) : Pw k p (wD p) := ⟨_, _, rfl, h.1.pr, h.2.pr⟩
theorem pr_m1 : Pr 1 (-1) (.tup [.int (-1), .int 1]) := ⟨-1, 1, rfl, by decide, by decide, by decide, by decide⟩
theorem pr_1 : Pr 1 1 (.tup [.int 1, .int 1]) := ⟨1, 1, rfl, by decide, by decide, by decide, by decide⟩
theorem pr_0 : Pr 1 0 (.tup [.int 0, .int 1]) := ⟨0, 1, rfl, by decide, by decide, by decide, by decide⟩
theorem divInt_le5 {a b : Int} (hb : 0 < b) : (Rat.divInt a b).num.natAbs ≤ a.natAbs ∧ (Rat.divInt a b).den ≤ b.natAbs := by
  constructor
  · rw [Rat.num_divInt, Int.sign_eq_one_of_pos hb, Int.one_mul]
    exact Int.natAbs_ediv_le_natAbs _ _
  · rw [Rat.den_divInt, if_neg (by omega)]
    exact Nat.div_le_self _ _
theorem ends_wide {a b m : Int} (hm : 1 ≤ m) (hM : m ≤ 10 ^ 60) (h0 : 0 ≤ a) (h : a ≤ b) (h1 : b ≤ m) : EndOk (Rat.divInt a m) (Rat.divInt b m) := by
  obtain ⟨a1, a2⟩ := divInt_le5 (a := a) (b := m) (by omega)
  obtain ⟨b1, b2⟩ := divInt_le5 (a := b) (b := m) (by omega)
  refine ⟨⟨by omega, by omega⟩, ⟨by omega, by omega⟩, Rat.divInt_nonneg h0 (by omega), div_le_div (by omega) h, ?_⟩
  have := div_le_div (m := m) (by omega) h1
  rwa [Rat.divInt_self' (by omega)] at this
section
variable {gl : Str → Option D} {T : Str → Option Fn}
theorem run_less_of [Lk : LibK75 gl T] [Lu : LibDu gl T] {n : Nat} (hn : 2 ≤ n) {k : Nat} {p q : Rat} {x y : D} (hx : Pr k p x) (hy : Pr k q y) (hk : k ≤ 300000) : ∃ z, callN gl T n "_law_less_of" .un [x, y] = .ret z false .un ∧ Pr k (lsQ p q) z := by
  have hb := run_below (gl := gl) (T := T) (n := n - 1) (by omega) hy hx hk hk
  unfold lsQ
  by_cases h : q < p
  · refine ⟨y, c_eq (c_run Lk.e__law_less_of (by omega) rfl rfl ?_), by rw [if_pos h]; exact hy⟩
    generalize callN gl T (n - 1) = C at *
    simp -implicitDefEqProofs [fn__law_less_of, rd, readS, takeS, readF, takeF, two, late, lateO, setS, hasS, hasL, lenOk, Ex.noio, Exs.noio, Oex.noio, retE, wipeS, backS, hb, h]
  · refine ⟨x, c_eq (c_run Lk.e__law_less_of (by omega) rfl rfl ?_), by rw [if_neg h]; exact hx⟩
    generalize callN gl T (n - 1) = C at *
    simp -implicitDefEqProofs [fn__law_less_of, rd, readS, takeS, readF, takeF, two, late, lateO, setS, hasS, hasL, lenOk, Ex.noio, Exs.noio, Oex.noio, retE, wipeS, backS, hb, h]
theorem run_more_of [Lk : LibK75 gl T] [Lu : LibDu gl T] {n : Nat} (hn : 2 ≤ n) {k : Nat} {p q : Rat} {x y : D} (hx : Pr k p x) (hy : Pr k q y) (hk : k ≤ 300000) : ∃ z, callN gl T n "_law_more_of" .un [x, y] = .ret z false .un ∧ Pr k (grQ p q) z := by
  have hb := run_below (gl := gl) (T := T) (n := n - 1) (by omega) hx hy hk hk
  unfold grQ
  by_cases h : p < q
  · refine ⟨y, c_eq (c_run Lk.e__law_more_of (by omega) rfl rfl ?_), by rw [if_pos h]; exact hy⟩
    generalize callN gl T (n - 1) = C at *
    simp -implicitDefEqProofs [fn__law_more_of, rd, readS, takeS, readF, takeF, two, late, lateO, setS, hasS, hasL, lenOk, Ex.noio, Exs.noio, Oex.noio, retE, wipeS, backS, hb, h]
  · refine ⟨x, c_eq (c_run Lk.e__law_more_of (by omega) rfl rfl ?_), by rw [if_neg h]; exact hx⟩
    generalize callN gl T (n - 1) = C at *
    simp -implicitDefEqProofs [fn__law_more_of, rd, readS, takeS, readF, takeF, two, late, lateO, setS, hasS, hasL, lenOk, Ex.noio, Exs.noio, Oex.noio, retE, wipeS, backS, hb, h]
theorem run_and_pair [Lk : LibK75 gl T] [Lu : LibDu gl T] [Lq : LibLq gl T] {n : Nat} (hn : 3 ≤ n) {k l : Nat} {a b : Rat × Rat} {x y : D} (hx : Pw k a x) (hy : Pw l b y) (hk : k + l + 3 ≤ 300000) : ∃ z, callN gl T n "_law_and_pair" .un [x, y] = .ret z false .un ∧ Pw (k + l + 3) (bothQ a b) z := by
  obtain ⟨x0, x1, rfl, p0, p1⟩ := hx
  obtain ⟨y0, y1, rfl, q0, q1⟩ := hy
  obtain ⟨z1, e1, h1⟩ := run__law_plus (gl := gl) (T := T) (n := n - 1) (by omega) p0 q0 (by omega) (by omega)
  obtain ⟨z2, e2, h2⟩ := run__law_plus (gl := gl) (T := T) (n := n - 1) (by omega) h1 pr_m1 (by omega) (by omega)
  obtain ⟨z3, e3, h3⟩ := run_more_of (gl := gl) (T := T) (n := n - 1) (by omega) (k := k + l + 3) (pr_0.mono (by omega)) (h2.mono (by omega)) (by omega)
  obtain ⟨z4, e4, h4⟩ := run_less_of (gl := gl) (T := T) (n := n - 1) (by omega) (k := k + l + 3) (p1.mono (by omega)) (q1.mono (by omega)) (by omega)
  refine ⟨.tup [z3, z4], c_eq (c_run Lk.e__law_and_pair (by omega) rfl rfl ?_), z3, z4, rfl, ?_, h4⟩
  · generalize callN gl T (n - 1) = C at *
    have l2 : 2 ≤ limN := by decide
    simp -implicitDefEqProofs [fn__law_and_pair, rd, readS, takeS, readF, takeF, two, late, lateO, setS, hasS, hasL, lenOk, Ex.noio, Exs.noio, Oex.noio, retE, wipeS, backS, e1, e2, e3, e4, l2]
  · rw [show bothQ a b = (grQ 0 (a.1 + b.1 - 1), lsQ a.2 b.2) from rfl, Rat.sub_eq_add_neg]; exact h3
theorem run_or_pair [Lk : LibK75 gl T] [Lu : LibDu gl T] [Lq : LibLq gl T] {n : Nat} (hn : 3 ≤ n) {k l : Nat} {a b : Rat × Rat} {x y : D} (hx : Pw k a x) (hy : Pw l b y) (hk : k + l + 3 ≤ 300000) : ∃ z, callN gl T n "_law_or_pair" .un [x, y] = .ret z false .un ∧ Pw (k + l + 3) (eithQ a b) z := by
  obtain ⟨x0, x1, rfl, p0, p1⟩ := hx
  obtain ⟨y0, y1, rfl, q0, q1⟩ := hy
  obtain ⟨z1, e1, h1⟩ := run__law_plus (gl := gl) (T := T) (n := n - 1) (by omega) p1 q1 (by omega) (by omega)
  obtain ⟨z3, e3, h3⟩ := run_less_of (gl := gl) (T := T) (n := n - 1) (by omega) (k := k + l + 3) (pr_1.mono (by omega)) (h1.mono (by omega)) (by omega)
  obtain ⟨z4, e4, h4⟩ := run_more_of (gl := gl) (T := T) (n := n - 1) (by omega) (k := k + l + 3) (p0.mono (by omega)) (q0.mono (by omega)) (by omega)
  refine ⟨.tup [z4, z3], c_eq (c_run Lk.e__law_or_pair (by omega) rfl rfl ?_), z4, z3, rfl, h4, h3⟩
  generalize callN gl T (n - 1) = C at *
  have l2 : 2 ≤ limN := by decide
  simp -implicitDefEqProofs [fn__law_or_pair, rd, readS, takeS, readF, takeF, two, late, lateO, setS, hasS, hasL, lenOk, Ex.noio, Exs.noio, Oex.noio, retE, wipeS, backS, e1, e3, e4, l2]
theorem run_not_pair [Lk : LibK75 gl T] [Lq : LibLq gl T] {n : Nat} (hn : 2 ≤ n) {k : Nat} {a : Rat × Rat} {x : D} (hx : Pw k a x) (hk : k + 2 ≤ 300000) : ∃ z, callN gl T n "_law_not_pair" .un [x] = .ret z false .un ∧ Pw (k + 2) (1 - a.2, 1 - a.1) z := by
  obtain ⟨x0, x1, rfl, p0, p1⟩ := hx
  obtain ⟨a0, b0, rfl⟩ := p0.two
  obtain ⟨a1, b1, rfl⟩ := p1.two
  obtain ⟨z1, e1, h1⟩ := run__law_plus (gl := gl) (T := T) (n := n - 1) (by omega) pr_1 p1.neg (by omega) (by omega)
  obtain ⟨z2, e2, h2⟩ := run__law_plus (gl := gl) (T := T) (n := n - 1) (by omega) pr_1 p0.neg (by omega) (by omega)
  refine ⟨.tup [z1, z2], c_eq (c_run Lk.e__law_not_pair (by omega) rfl rfl ?_), z1, z2, rfl, ?_, ?_⟩
  · generalize callN gl T (n - 1) = C at *
    have l2 : 2 ≤ limN := by decide
    simp -implicitDefEqProofs [fn__law_not_pair, rd, readS, takeS, readF, takeF, two, late, lateO, setS, hasS, hasL, lenOk, Ex.noio, Exs.noio, Oex.noio, retE, wipeS, backS, e1, e2, l2]
  · rw [show ((1 - a.2, 1 - a.1) : Rat × Rat).1 = 1 - a.2 from rfl, Rat.sub_eq_add_neg]; exact h1.mono (by omega)
  · rw [show ((1 - a.2, 1 - a.1) : Rat × Rat).2 = 1 - a.1 from rfl, Rat.sub_eq_add_neg]; exact h2.mono (by omega)
theorem run_model [Lk : LibK75 gl T] [Lu : LibDu gl T] [Lq : LibLq gl T] {K : Nat} (hK : 3 ≤ K) {ns : List Str} {sp : List (Rat × Rat)} (hl : ns.length = sp.length) (hs : ∀ x ∈ ns, Bw K (spAt ns sp x)) : ∀ (f : Fm) (n : Nat), f.depth + 3 ≤ n → f.over ns → K * f.nodes ≤ 200000 →
    ∃ z, callN gl T n "_law_model" .un [nsD ns, .tup (sp.map wD), fmD f] = .ret z false .un ∧ Pw (K * f.nodes) (f.pl (spAt ns sp)) z := by
  intro f
  have l2 : 2 ≤ limN := by decide
  induction f with
  | yes =>
    intro n hn hov hb
    refine ⟨.tup [.tup [.int 1, .int 1], .tup [.int 1, .int 1]], c_eq (c_run Lk.e__law_model (by omega) rfl rfl ?_), _, _, rfl, pr_1.mono (by simp only [Fm.nodes]; omega), pr_1.mono (by simp only [Fm.nodes]; omega)⟩
    generalize callN gl T (n - 1) = C
    simp -implicitDefEqProofs [fn__law_model, rd, readS, takeS, readF, takeF, two, late, lateO, setS, hasS, hasL, lenOk, Ex.noio, Exs.noio, Oex.noio, retE, wipeS, backS, fmD, l2]
  | no =>
    intro n hn hov hb
    refine ⟨.tup [.tup [.int 0, .int 1], .tup [.int 0, .int 1]], c_eq (c_run Lk.e__law_model (by omega) rfl rfl ?_), _, _, rfl, pr_0.mono (by simp only [Fm.nodes]; omega), pr_0.mono (by simp only [Fm.nodes]; omega)⟩
    generalize callN gl T (n - 1) = C
    simp -implicitDefEqProofs [fn__law_model, rd, readS, takeS, readF, takeF, two, late, lateO, setS, hasS, hasL, lenOk, Ex.noio, Exs.noio, Oex.noio, retE, wipeS, backS, fmD, l2]
  | is x =>
    intro n hn hov hb
    have hm := mth_index hov
    have hp : plc x ns < sp.length := by rw [← hl]; exact plc_lt hov
    have hx : L2.atI (sp.map wD) ((plc x ns : Nat) : Int) = some (wD (spAt ns sp x)) := by
      refine atK (by omega) ?_
      rw [Int.toNat_natCast, List.getElem?_map, List.getElem?_eq_getElem hp]
      unfold spAt
      rw [List.getD_eq_getElem?_getD, List.getElem?_eq_getElem hp]; rfl
    have ho1 : mthO .index (nsD ns) = some () := rfl
    refine ⟨wD (spAt ns sp x), c_eq (c_run Lk.e__law_model (by omega) rfl rfl ?_), by simpa [Fm.nodes, Fm.pl] using (hs x hov).pw⟩
    generalize callN gl T (n - 1) = C
    simp -implicitDefEqProofs [fn__law_model, rd, readS, takeS, readF, takeF, two, late, lateO, setS, hasS, hasL, lenOk, Ex.noio, Exs.noio, Oex.noio, retE, wipeS, backS, fmD, hm, hx, ho1]
  | not f ih =>
    intro n hn hov hb
    simp only [Fm.depth] at hn
    have eN : K * (f.not).nodes = K * f.nodes + K := by simp only [Fm.nodes]; rw [Nat.mul_add, Nat.mul_one]
    rw [eN] at hb
    obtain ⟨z, e1, h1⟩ := ih (n - 1) (by omega) hov (by omega)
    obtain ⟨u, e2, h2⟩ := run_not_pair (gl := gl) (T := T) (n := n - 1) (by omega) h1 (by omega)
    obtain ⟨x, y, rfl, h3, h4⟩ := h2
    refine ⟨_, c_eq (c_run Lk.e__law_model (by omega) rfl rfl ?_), x, y, rfl, h3.mono (by omega), h4.mono (by omega)⟩
    generalize callN gl T (n - 1) = C at *
    simp -implicitDefEqProofs [fn__law_model, rd, readS, takeS, readF, takeF, two, late, lateO, setS, hasS, hasL, lenOk, Ex.noio, Exs.noio, Oex.noio, retE, wipeS, backS, fmD, e1, e2]
  | and f g ihf ihg =>
    intro n hn hov hb
    simp only [Fm.depth] at hn
    have eN : K * (f.and g).nodes = K * f.nodes + K * g.nodes + K := by simp only [Fm.nodes]; rw [Nat.mul_add, Nat.mul_add, Nat.mul_one]
    rw [eN] at hb
    obtain ⟨z, e1, h1⟩ := ihf (n - 1) (by omega) hov.1 (by omega)
    obtain ⟨u, e2, h2⟩ := ihg (n - 1) (by omega) hov.2 (by omega)
    obtain ⟨v, e3, h3⟩ := run_and_pair (gl := gl) (T := T) (n := n - 1) (by omega) h1 h2 (by omega)
    obtain ⟨x, y, rfl, h3, h4⟩ := h3
    refine ⟨_, c_eq (c_run Lk.e__law_model (by omega) rfl rfl ?_), x, y, rfl, h3.mono (by omega), h4.mono (by omega)⟩
    generalize callN gl T (n - 1) = C at *
    simp -implicitDefEqProofs [fn__law_model, rd, readS, takeS, readF, takeF, two, late, lateO, setS, hasS, hasL, lenOk, Ex.noio, Exs.noio, Oex.noio, retE, wipeS, backS, fmD, e1, e2, e3]
  | or f g ihf ihg =>
    intro n hn hov hb
    simp only [Fm.depth] at hn
    have eN : K * (f.or g).nodes = K * f.nodes + K * g.nodes + K := by simp only [Fm.nodes]; rw [Nat.mul_add, Nat.mul_add, Nat.mul_one]
    rw [eN] at hb
    obtain ⟨z, e1, h1⟩ := ihf (n - 1) (by omega) hov.1 (by omega)
    obtain ⟨u, e2, h2⟩ := ihg (n - 1) (by omega) hov.2 (by omega)
    obtain ⟨v, e3, h3⟩ := run_or_pair (gl := gl) (T := T) (n := n - 1) (by omega) h1 h2 (by omega)
    obtain ⟨x, y, rfl, h3, h4⟩ := h3
    refine ⟨_, c_eq (c_run Lk.e__law_model (by omega) rfl rfl ?_), x, y, rfl, h3.mono (by omega), h4.mono (by omega)⟩
    generalize callN gl T (n - 1) = C at *
    simp -implicitDefEqProofs [fn__law_model, rd, readS, takeS, readF, takeF, two, late, lateO, setS, hasS, hasL, lenOk, Ex.noio, Exs.noio, Oex.noio, retE, wipeS, backS, fmD, e1, e2, e3]
theorem run_pair75 [Lk : LibK75 gl T] [Ll : LibLaw gl T] {n : Nat} (hn : 3 ≤ n) {p : Rat × Rat} {k : Nat} (h : Bw k p) (hk : k ≤ 400000) : callN gl T n "_law_pair" .un [wD p] = .ret (.bl true) false .un := by
  refine c_eq (c_run Lk.e__law_pair (by omega) rfl rfl ?_)
  have h1 := run__law_fraction (gl := gl) (T := T) (n := n - 1) (by omega) (h.1.mo hk).2
  have h2 := run__law_fraction (gl := gl) (T := T) (n := n - 1) (by omega) (h.2.mo hk).2
  generalize callN gl T (n - 1) = C at *
  have i1 : isTys (wD p) [.tuple] = true := rfl
  have i2 : bltD .len [wD p] = some (.int 2, false) := rfl
  simp -implicitDefEqProofs [fn__law_pair, rd, readS, takeS, readF, takeF, two, late, lateO, setS, hasS, hasL, lenOk, Ex.noio, Exs.noio, Oex.noio, retE, wipeS, backS, h1, h2, i1, i2]
theorem run_same_pair [Lk : LibK75 gl T] [Lq : LibLq gl T] {n : Nat} (hn : 2 ≤ n) {k : Nat} {p : Rat × Rat} {d : D} (h : Bw k p) (hd : Pw k p d) (hk : k ≤ 300000) : callN gl T n "_law_same_pair" .un [wD p, d] = .ret (.bl true) false .un := by
  obtain ⟨x, y, rfl, h1, h2⟩ := hd
  refine c_eq (c_run Lk.e__law_same_pair (by omega) rfl rfl ?_)
  have e1 := run__law_same (gl := gl) (T := T) (n := n - 1) (by omega) h.1.pr h1 hk hk
  have e2 := run__law_same (gl := gl) (T := T) (n := n - 1) (by omega) h.2.pr h2 hk hk
  generalize callN gl T (n - 1) = C at *
  rw [decide_eq_true rfl] at e1 e2
  simp -implicitDefEqProofs [fn__law_same_pair, rd, readS, takeS, readF, takeF, two, late, lateO, setS, hasS, hasL, lenOk, Ex.noio, Exs.noio, Oex.noio, retE, wipeS, backS, e1, e2]
theorem c_wide [Lk : LibK75 gl T] [Ld : LibDraw gl T] [Ll : LibLaw gl T] {n : Nat} (hn : 3 ≤ n) {p : Bool} {xs : List D} {t : Nat} (hp : Pl t xs) (ht : t ≤ 80000) {Q : D → Bool → Slot → Prop} {X : Str → Option D → Slot → Prop}
    (k : ∀ (w : Rat × Rat) xs', EndOk w.1 w.2 → Pl (t + 6) xs' → Q (wD w) false (.ow p xs')) : wC (callN gl T n "_law_wide_span" (.ow p xs) []) Q X := by
  refine c_io Lk.e__law_wide_span (by omega) rfl rfl ?_
  have hd := fun {xs : List D} {t : Nat} (hp : Pl t xs) (ht : t ≤ 100000000000000) {m : Int} (m0 : 0 < m) (m1 : m.natAbs < 2 ^ 200) {p Q X} => c_drw (gl := gl) (T := T) (n := n - 1) (by omega) (p := p) hp ht m0 m1 (Q := Q) (X := X)
  have hl := fun (a : Int) {b : Int} (hb : b ≠ 0) (sb : Lo b) => run__law_lowest (gl := gl) (T := T) (n := n - 1) (by omega) a hb sb
  generalize callN gl T (n - 1) = C at *
  have p60 : binD .pow (.int 10) (.int 60) = some (.int (10 ^ 60), false) := rfl
  have p12 : binD .pow (.int 10) (.int 12) = some (.int (10 ^ 12), false) := rfl
  have p17 : binD .pow (.int 10) (.int 17) = some (.int (10 ^ 17), false) := rfl
  unfold fn__law_wide_span
  refine s_cons ?_
  simp -implicitDefEqProofs [-rSs_cons, rd, readS, takeS, readF, takeF, two, late, lateO, setS, hasS, hasL, lenOk, Ex.noio, Exs.noio, Oex.noio, retE, wipeS, backS]
  refine hd hp (by omega) (by omega) (by omega) fun kd xs1 r0 r1 p1 => ?_
  simp -implicitDefEqProofs [-rSs_cons, rd, readS, takeS, readF, takeF, two, late, lateO, setS, hasS, hasL, lenOk, Ex.noio, Exs.noio, Oex.noio, retE, wipeS, backS]
  refine s_cons ?_
  simp -implicitDefEqProofs [-rSs_cons, rd, readS, takeS, readF, takeF, two, late, lateO, setS, hasS, hasL, lenOk, Ex.noio, Exs.noio, Oex.noio, retE, wipeS, backS]
  refine hd p1 (by omega) (by omega) (by omega) fun m0 xs2 a0 a1 p2 => ?_
  simp -implicitDefEqProofs [-rSs_cons, rd, readS, takeS, readF, takeF, two, late, lateO, setS, hasS, hasL, lenOk, Ex.noio, Exs.noio, Oex.noio, retE, wipeS, backS]
  obtain ⟨M1, hM1⟩ : ∃ M1 : Sg → Prop, M1 = fun s => ∃ (m : Int) (xs : List D), 1 ≤ m ∧ m ≤ 10 ^ 60 ∧ Pl (t + 3) xs ∧ s = [.ow true xs, .sh (.int kd), .sh (.int m), .un, .un] := ⟨_, rfl⟩
  obtain ⟨M2, hM2⟩ : ∃ M2 : Sg → Prop, M2 = fun s => ∃ (m : Int) (xs : List D), 1 ≤ m ∧ m ≤ 10 ^ 60 ∧ Pl (t + 4) xs ∧ s = [.ow true xs, .sh (.int kd), .sh (.int m), .un, .un] := ⟨_, rfl⟩
  refine s_cut M1 ?_ ?_
  · by_cases h : kd = 0
    · simp -implicitDefEqProofs [rd, readS, takeS, readF, takeF, two, late, lateO, setS, hasS, hasL, lenOk, Ex.noio, Exs.noio, Oex.noio, retE, wipeS, backS, h, p60, p12]
      refine hd p2 (by omega) (by decide) (by decide) fun e xs3 e0 e1 p3 => ?_
      simp -implicitDefEqProofs [rd, readS, takeS, readF, takeF, two, late, lateO, setS, hasS, hasL, lenOk, Ex.noio, Exs.noio, Oex.noio, retE, wipeS, backS]
      rw [hM1]
      subst h
      refine ⟨_, xs3, ?_, ?_, p3, rfl⟩ <;> omega
    · simp -implicitDefEqProofs [rd, readS, takeS, readF, takeF, two, late, lateO, setS, hasS, hasL, lenOk, Ex.noio, Exs.noio, Oex.noio, retE, wipeS, backS, h]
      rw [hM1]
      exact ⟨_, xs2, by omega, by omega, p2.mono (by omega), rfl⟩
  intro s hs
  rw [hM1] at hs
  obtain ⟨m, xs3, m1, m2, p3, rfl⟩ := hs
  clear hM1 M1
  refine s_cut M2 ?_ ?_
  · by_cases h : kd = 1
    · simp -implicitDefEqProofs [rd, readS, takeS, readF, takeF, two, late, lateO, setS, hasS, hasL, lenOk, Ex.noio, Exs.noio, Oex.noio, retE, wipeS, backS, h, p17]
      refine hd p3 (by omega) (by decide) (by decide) fun e xs4 e0 e1 p4 => ?_
      simp -implicitDefEqProofs [rd, readS, takeS, readF, takeF, two, late, lateO, setS, hasS, hasL, lenOk, Ex.noio, Exs.noio, Oex.noio, retE, wipeS, backS]
      rw [hM2]
      subst h
      refine ⟨_, xs4, ?_, ?_, p4, rfl⟩ <;> omega
    · simp -implicitDefEqProofs [rd, readS, takeS, readF, takeF, two, late, lateO, setS, hasS, hasL, lenOk, Ex.noio, Exs.noio, Oex.noio, retE, wipeS, backS, h]
      rw [hM2]
      exact ⟨_, xs3, by omega, by omega, p3.mono (by omega), rfl⟩
  intro s hs
  rw [hM2] at hs
  obtain ⟨m, xs4, m1, m2, p4, rfl⟩ := hs
  clear hM2 M2
  refine s_cons ?_
  simp -implicitDefEqProofs [-rSs_cons, rd, readS, takeS, readF, takeF, two, late, lateO, setS, hasS, hasL, lenOk, Ex.noio, Exs.noio, Oex.noio, retE, wipeS, backS]
  refine hd p4 (by omega) (by omega) (by omega) fun a xs5 b0 b1 p5 => ?_
  simp -implicitDefEqProofs [-rSs_cons, rd, readS, takeS, readF, takeF, two, late, lateO, setS, hasS, hasL, lenOk, Ex.noio, Exs.noio, Oex.noio, retE, wipeS, backS]
  refine s_cons ?_
  simp -implicitDefEqProofs [-rSs_cons, rd, readS, takeS, readF, takeF, two, late, lateO, setS, hasS, hasL, lenOk, Ex.noio, Exs.noio, Oex.noio, retE, wipeS, backS]
  refine hd p5 (by omega) (by omega) (by omega) fun b xs6 c0 c1 p6 => ?_
  simp -implicitDefEqProofs [-rSs_cons, rd, readS, takeS, readF, takeF, two, late, lateO, setS, hasS, hasL, lenOk, Ex.noio, Exs.noio, Oex.noio, retE, wipeS, backS]
  obtain ⟨M3, hM3⟩ : ∃ M3 : Sg → Prop, M3 = fun s => ∃ a : Int, 0 ≤ a ∧ a ≤ m ∧ s = [.ow true xs6, .sh (.int kd), .sh (.int m), .sh (.int a), .sh (.int b)] := ⟨_, rfl⟩
  refine s_cut M3 ?_ ?_
  · by_cases h : kd = 2
    · simp -implicitDefEqProofs [rd, readS, takeS, readF, takeF, two, late, lateO, setS, hasS, hasL, lenOk, Ex.noio, Exs.noio, Oex.noio, retE, wipeS, backS, h]
      rw [hM3]
      exact ⟨0, by omega, by omega, by rw [h]⟩
    · simp -implicitDefEqProofs [rd, readS, takeS, readF, takeF, two, late, lateO, setS, hasS, hasL, lenOk, Ex.noio, Exs.noio, Oex.noio, retE, wipeS, backS, h]
      rw [hM3]
      exact ⟨a, by omega, by omega, rfl⟩
  intro s hs
  rw [hM3] at hs
  obtain ⟨a, b0, b1, rfl⟩ := hs
  clear hM3 M3
  obtain ⟨M4, hM4⟩ : ∃ M4 : Sg → Prop, M4 = fun s => ∃ b : Int, 0 ≤ b ∧ b ≤ m ∧ s = [.ow true xs6, .sh (.int kd), .sh (.int m), .sh (.int a), .sh (.int b)] := ⟨_, rfl⟩
  refine s_cut M4 ?_ ?_
  · by_cases h : kd = 3
    · simp -implicitDefEqProofs [rd, readS, takeS, readF, takeF, two, late, lateO, setS, hasS, hasL, lenOk, Ex.noio, Exs.noio, Oex.noio, retE, wipeS, backS, h]
      rw [hM4]
      exact ⟨m, by omega, by omega, by rw [h]⟩
    · simp -implicitDefEqProofs [rd, readS, takeS, readF, takeF, two, late, lateO, setS, hasS, hasL, lenOk, Ex.noio, Exs.noio, Oex.noio, retE, wipeS, backS, h]
      rw [hM4]
      exact ⟨b, by omega, by omega, rfl⟩
  intro s hs
  rw [hM4] at hs
  obtain ⟨b, c0, c1, rfl⟩ := hs
  clear hM4 M4
  have hz : m ≠ 0 := by omega
  have lm : Lo m := lo_of (Nat.lt_of_le_of_lt (show m.natAbs ≤ 10 ^ 60 by omega) (by decide))
  have hE := ends_wide (a := if b < a then b else a) (b := if b > a then b else a) m1 m2 (by split <;> omega) (by split <;> split <;> omega) (by split <;> omega)
  have hq := k (Rat.divInt (if b < a then b else a) m, Rat.divInt (if b > a then b else a) m) xs6 hE (p6.mono (by omega))
  have e1 := hl (if b < a then b else a) hz lm
  have e2 := hl (if b > a then b else a) hz lm
  have g1 : bltD .min2 [.int a, .int b] = some (.int (if b < a then b else a), false) := rfl
  have g2 : bltD .max2 [.int a, .int b] = some (.int (if b > a then b else a), false) := rfl
  have l2 : 2 ≤ limN := by decide
  clear hE
  generalize (if b < a then b else a) = lo at *
  generalize (if b > a then b else a) = hi at *
  simp -implicitDefEqProofs [-b_min, -b_max, rd, readS, takeS, readF, takeF, two, late, lateO, setS, hasS, hasL, lenOk, Ex.noio, Exs.noio, Oex.noio, retE, wipeS, backS, g1, g2, e1, e2, l2]
  exact hq
theorem run_law [Lk : LibK75 gl T] [Lp : LibPn gl T] [Lu : LibDu gl T] [Lfc : LibFc gl T] [Lqn : LibQn gl T] [Lr : LibRat gl T] [Lm : LibFm gl T] [Lq : LibLq gl T] [Lb : LibLb gl T] [Ln : LibLn gl T] [Ld : LibDraw gl T] [Ll : LibLaw gl T] {n : Nat} (hn : 19 ≤ n) (ns : List Int) (h : ns.length ≤ 63) : callN gl T n "law" .un [.lst (ns.map D.int)] = .ret (.bl true) false .un := by
  refine c_eq (c_run Lk.e_law (by omega) rfl rfl ?_)
  obtain ⟨xs, hx, hp⟩ := run_pool' (gl := gl) (T := T) (n := n - 1) (by omega) ns h
  have hd := fun {xs : List D} {t : Nat} (hp : Pl t xs) (ht : t ≤ 100000000000000) {m : Int} (m0 : 0 < m) (m1 : m.natAbs < 2 ^ 200) {p Q X} => c_drw (gl := gl) (T := T) (n := n - 1) (by omega) (p := p) hp ht m0 m1 (Q := Q) (X := X)
  have hnm := fun {xs : List D} {t : Nat} (hp : Pl t xs) (ht : t ≤ 90000) {p Q X} => c_names (gl := gl) (T := T) (n := n - 1) (by omega) (p := p) hp ht (m := 4) (by decide) (by decide) (Q := Q) (X := X)
  have hws := fun {xs : List D} {t : Nat} (hp : Pl t xs) (ht : t ≤ 80000) {p Q X} => c_wide (gl := gl) (T := T) (n := n - 1) (by omega) (p := p) hp ht (Q := Q) (X := X)
  have htr := fun {ns : List Str} (h1 : 1 ≤ ns.length) (h4 : ns.length ≤ 4) {xs : List D} {t : Nat} (hp : Pl t xs) {room : Nat} (r1 : 1 ≤ room) (r2 : room ≤ 400) (ht : t + 2 * room ≤ 91000) {p Q X} => c_tree (gl := gl) (T := T) h1 h4 12 (n - 1) (by omega) (by decide) (by decide) (p := p) hp r1 r2 ht (Q := Q) (X := X)
  have hpl := fun {ns : List Str} (hs : Nms ns) {sp : List (Rat × Rat)} (hl : ns.length = sp.length) (h : ∀ p ∈ sp, EndOk p.1 p.2) {f : Fm} (of : FmOk ns f) => run_plain (gl := gl) (T := T) (n := n - 1) (by omega) hs hl h of
  have hpr := fun {p : Rat × Rat} {k : Nat} (h : Bw k p) (hk : k ≤ 400000) => run_pair75 (gl := gl) (T := T) (n := n - 1) (by omega) h hk
  have hsm := fun {p : Rat × Rat} {k : Nat} {d : D} (h : Bw k p) (hd : Pw k p d) (hk : k ≤ 300000) => run_same_pair (gl := gl) (T := T) (n := n - 1) (by omega) h hd hk
  have hmd := fun {ns : List Str} {sp : List (Rat × Rat)} (hl : ns.length = sp.length) (hs : ∀ x ∈ ns, Bw 201 (spAt ns sp x)) {f : Fm} (of : FmOk ns f) => run_model (gl := gl) (T := T) (K := 201) (by decide) hl hs f (n - 1) (by have := of.dp; omega) of.ov (by have := of.nd; omega)
  generalize callN gl T (n - 1) = C at *
  have l2 : 2 ≤ limN := by decide
  unfold fn_law
  refine s_cons ?_
  simp -implicitDefEqProofs [-rSs_cons, rd, readS, takeS, readF, takeF, two, late, lateO, setS, hasS, hasL, lenOk, Ex.noio, Exs.noio, Oex.noio, retE, wipeS, backS, hx]
  refine s_cons ?_
  simp -implicitDefEqProofs [-rSs_cons, rd, readS, takeS, readF, takeF, two, late, lateO, setS, hasS, hasL, lenOk, Ex.noio, Exs.noio, Oex.noio, retE, wipeS, backS]
  refine hd hp (by omega) (by omega) (by omega) fun r xs1 r0 r1 p1 => ?_
  obtain ⟨room, hroom⟩ : ∃ room : Nat, 1 + r = room := ⟨(1 + r).toNat, by omega⟩
  simp -implicitDefEqProofs [-rSs_cons, rd, readS, takeS, readF, takeF, two, late, lateO, setS, hasS, hasL, lenOk, Ex.noio, Exs.noio, Oex.noio, retE, wipeS, backS, hroom]
  refine s_cons ?_
  simp -implicitDefEqProofs [-rSs_cons, rd, readS, takeS, readF, takeF, two, late, lateO, setS, hasS, hasL, lenOk, Ex.noio, Exs.noio, Oex.noio, retE, wipeS, backS]
  refine hnm p1 (by omega) fun nm xs2 hN hN3 p2 => ?_
  simp -implicitDefEqProofs [-rSs_cons, rd, readS, takeS, readF, takeF, two, late, lateO, setS, hasS, hasL, lenOk, Ex.noio, Exs.noio, Oex.noio, retE, wipeS, backS]
  have i1 : itemsD (nsD nm) = some (nm.map D.str) := rfl
  refine s_cons ?_
  simp -implicitDefEqProofs [-rSs_cons, rd, readS, takeS, readF, takeF, two, late, lateO, setS, hasS, hasL, lenOk, Ex.noio, Exs.noio, Oex.noio, retE, wipeS, backS, i1]
  refine e_draws (α := Rat × Rat) (e := wD) (Pa := fun w => EndOk w.1 w.2) (st := fun xs => [.sh (.lst (ns.map D.int)), .ow false xs, .sh (.int room), .sh (nsD nm), .un, .un, .un, .un]) (c := 6) (by rw [List.length_map]; have := hN.hi; omega) p2 ?_ ?_
  · intro d hd' i acc xs hi hacc hp
    rw [List.length_map] at hi
    have := hN.hi
    simp -implicitDefEqProofs [rd, readS, takeS, readF, takeF, two, late, lateO, setS, hasS, hasL, lenOk, Ex.noio, Exs.noio, Oex.noio, retE, wipeS, backS, asg]
    refine hws hp (by omega) fun w xs' hw hp' => ?_
    refine wE_app hacc ?_
    exact ⟨w, xs', hw, hp', rfl, rfl⟩
  intro sp xs3 hsl hse p3
  rw [List.length_map] at hsl p3
  have h4 := hN.hi
  simp -implicitDefEqProofs [-rSs_cons, rd, readS, takeS, readF, takeF, two, late, lateO, setS, hasS, hasL, lenOk, Ex.noio, Exs.noio, Oex.noio, retE, wipeS, backS]
  refine s_cons ?_
  simp -implicitDefEqProofs [-rSs_cons, rd, readS, takeS, readF, takeF, two, late, lateO, setS, hasS, hasL, lenOk, Ex.noio, Exs.noio, Oex.noio, retE, wipeS, backS]
  refine htr hN.lo hN.hi p3 (room := room) (by omega) (by omega) (by omega) fun f xs4 bf p4 => ?_
  have of : FmOk nm f := bf.ok (by omega) (by decide)
  have e1 := hpl hN hsl.symm hse of
  have bs : ∀ x ∈ nm, Bw 201 (spAt nm sp x) := fun x hx => by
    have hp : plc x nm < sp.length := by rw [hsl]; exact plc_lt hx
    have hm : spAt nm sp x ∈ sp := by
      unfold spAt
      rw [List.getD_eq_getElem?_getD, List.getElem?_eq_getElem hp]
      exact List.getElem_mem hp
    have := hse _ hm
    exact ⟨this.nl.bd.mono (by decide), this.nh.bd.mono (by decide)⟩
  have bw := pl_bd (K := 201) (by decide) bs f of.ov
  have hn6 : 201 * f.nodes ≤ 200000 := by have := of.nd; omega
  obtain ⟨z, e2, h2⟩ := hmd hsl.symm bs of
  have e3 := hpr bw (by omega)
  have e4 := hsm bw h2 (by omega)
  simp -implicitDefEqProofs [-rSs_cons, rd, readS, takeS, readF, takeF, two, late, lateO, setS, hasS, hasL, lenOk, Ex.noio, Exs.noio, Oex.noio, retE, wipeS, backS]
  refine s_cons ?_
  simp -implicitDefEqProofs [-rSs_cons, rd, readS, takeS, readF, takeF, two, late, lateO, setS, hasS, hasL, lenOk, Ex.noio, Exs.noio, Oex.noio, retE, wipeS, backS, e1]
  refine s_cons ?_
  simp -implicitDefEqProofs [rd, readS, takeS, readF, takeF, two, late, lateO, setS, hasS, hasL, lenOk, Ex.noio, Exs.noio, Oex.noio, retE, wipeS, backS, e2, e3, e4]
end
end IL
end
section
set_option maxHeartbeats 0
open PySem PySem.W PySem.Calls PyProof.Rows
def Lw.gl (x : PySem.Str) : Option IL.D := (Lw.glos ++ IL.gloFc ++ IL.gloQn ++ IL.gloRat ++ IL.gloFm).lookup x
def Lw.T (x : PySem.Str) : Option IL.Fn := ((Lw.rows.map fun r => (r.x, r.fn)) ++ IL.tabK75 ++ IL.tabPn ++ IL.tabDu ++ IL.tabFc ++ IL.tabQn ++ IL.tabRat ++ IL.tabFm ++ IL.tabLq ++ IL.tabLb ++ IL.tabLn ++ IL.tabDraw ++ IL.tabLaw).lookup x
theorem Lw.lookup_first {α : Type} : ∀ (gs more : List (PySem.Str × α)), (gs.map (·.1)).Nodup → ∀ p ∈ gs, (gs ++ more).lookup p.1 = some p.2
  | [], _, _, p, h => nomatch h
  | q :: gs, more, nd, p, h => by
    rw [List.map_cons, List.nodup_cons] at nd
    rw [List.cons_append, List.lookup_cons]
    rcases List.mem_cons.mp h with rfl | h
    · simp
    · have : (p.1 == q.1) = false := by
        rw [beq_eq_false_iff_ne]
        intro e
        exact nd.1 (e ▸ List.mem_map_of_mem h)
      rw [this]
      exact Lw.lookup_first gs more nd.2 p h
theorem Lw.hg : ∀ p ∈ Lw.glos, Lw.gl p.1 = some p.2 := fun p h => by
  have := Lw.lookup_first Lw.glos (IL.gloFc ++ IL.gloQn ++ IL.gloRat ++ IL.gloFm) (by decide +kernel) p h
  simpa [Lw.gl, List.append_assoc] using this
theorem Lw.hT : ∀ r ∈ Lw.rows, Lw.T r.x = some r.fn := fun r h => by
  have := Lw.lookup_first (Lw.rows.map fun r => (r.x, r.fn)) (IL.tabK75 ++ IL.tabPn ++ IL.tabDu ++ IL.tabFc ++ IL.tabQn ++ IL.tabRat ++ IL.tabFm ++ IL.tabLq ++ IL.tabLb ++ IL.tabLn ++ IL.tabDraw ++ IL.tabLaw) (by rw [List.map_map]; decide +kernel) (r.x, r.fn) (List.mem_map_of_mem h)
  simpa [Lw.T, List.append_assoc] using this
instance : IL.LibK75 Lw.gl Lw.T := by constructor <;> rfl
instance : IL.LibPn Lw.gl Lw.T := by constructor <;> rfl
instance : IL.LibDu Lw.gl Lw.T := by constructor <;> rfl
instance : IL.LibFc Lw.gl Lw.T := by constructor <;> rfl
instance : IL.LibQn Lw.gl Lw.T := by constructor <;> rfl
instance : IL.LibRat Lw.gl Lw.T := by constructor <;> rfl
instance : IL.LibFm Lw.gl Lw.T := by constructor <;> rfl
instance : IL.LibLq Lw.gl Lw.T := by constructor <;> rfl
instance : IL.LibLb Lw.gl Lw.T := by constructor <;> rfl
instance : IL.LibLn Lw.gl Lw.T := by constructor <;> rfl
instance : IL.LibDraw Lw.gl Lw.T := by constructor <;> rfl
instance : IL.LibLaw Lw.gl Lw.T := by constructor <;> rfl
instance : IL.LibLf Lw.gl Lw.T := IL.lf_of_lb
theorem Lw.holds_of (n : Nat) (hn : n ≤ 110) (val : ∀ ns : List Int, ns.length ≤ 63 → ∃ fr io, IL.callN Lw.gl Lw.T (n + 1) ("law" : PySem.Str) .un [.lst (ns.map IL.D.int)] = .ret (.bl true) fr io) : PySem.Challenge.rw_chanceends_k75_plain_rules.Holds := Lw.holds_any Lw.gl Lw.T Lw.hg Lw.hT n hn val
end
section
set_option maxHeartbeats 0
theorem PySem.Challenge.cw_chanceends_k75_plain_rules_holds : PySem.Challenge.rw_chanceends_k75_plain_rules.Holds := by
  exact Lw.holds_of 20 (by decide) fun ns hns => ⟨false, .un, IL.run_law (by omega) ns hns⟩
end
