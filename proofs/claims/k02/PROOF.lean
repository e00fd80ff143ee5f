import PyProof.Rows.All
import Wide.All
import OpenK.AllK
import Wide.FinOn
import HandS.ForMost
import HandS.ForExc
import HandS.IsInst
import HandS.TupAny
import HandS.ExcInit
import HandS.TryMany
import HandS.Wide
import HandS.Text
import HandS.TupMul
import HandS.Iter
import HandS.HeadHook3
import HandS.Deep
import HandS.Flow
import HandS.FStr
import HandS.Style
import HandS.ClsMeth
import HandS.Defaults
import HandS.ExcField
import HandS.Head0
import HandS.Head1
import HandS.Head2
import HandS.HeadEnd
import HandS.HeadHook2
import HandS.EndBits
import HandS.Words
import KE.IntTextText
import KE.KIntText
import PySem.Challenge.RW_farsheet_k02_texts_of_no_formula
set_option Elab.async false
set_option linter.all false
set_option maxRecDepth 100000
set_option maxHeartbeats 4000000
/-! A small language for the fragment of Python that the program and its laws use, and its evaluator. -/
namespace Far
open PySem L2

/-- values: tuples and lists that no longer change are trees; ref: a thing in the store -/
inductive U where
  | non
  | bl (b : Bool)
  | int (i : Int)
  | str (s : Str)
  | tup (us : List U)
  | lst (us : List U)
  | dct (ks : List Key) (us : List U)
  /-- a dict of the module, text keys -/
  | kdt (ks : List Key) (us : List U)
  /-- a list from outside -/
  | fz (us : List U)
  | ref (n : Nat)

/-- the store: things with an identity -/
inductive SO where
  | lst (us : List U)
abbrev Sto := List SO

structure Exc where
  cls : Str
  fs : List (Str × U)

inductive R (α : Type) where
  | ok (a : α) (S : Sto)
  | exc (x : Exc) (S : Sto)
  | bad

def R.bind {α β : Type} (r : R α) (k : α → Sto → R β) : R β := match r with
  | .ok a S => k a S
  | .exc x S => .exc x S
  | .bad => .bad
/-- no error may leave -/
def R.bindN {α β : Type} (r : R α) (k : α → Sto → R β) : R β := match r with
  | .ok a S => k a S
  | _ => .bad
@[simp] theorem R.bindN_ok {α β : Type} (a : α) (S : Sto) (k : α → Sto → R β) : (R.ok a S).bindN k = k a S := rfl
@[simp] theorem R.bindN_exc {α β : Type} (x : Exc) (S : Sto) (k : α → Sto → R β) : (R.exc x S : R α).bindN k = .bad := rfl
@[simp] theorem R.bindN_bad {α β : Type} (k : α → Sto → R β) : (R.bad : R α).bindN k = .bad := rfl
theorem R.bindN_bind {α β γ : Type} (r : R α) (f : α → Sto → R β) (g : β → Sto → R γ) : (r.bind f).bindN g = r.bindN fun a S => (f a S).bindN g := by cases r <;> rfl
@[simp] theorem R.bind_ok {α β : Type} (a : α) (S : Sto) (k : α → Sto → R β) : (R.ok a S).bind k = k a S := rfl
@[simp] theorem R.bind_exc {α β : Type} (x : Exc) (S : Sto) (k : α → Sto → R β) : (R.exc x S : R α).bind k = .exc x S := rfl
@[simp] theorem R.bind_bad {α β : Type} (k : α → Sto → R β) : (R.bad : R α).bind k = .bad := rfl

/-! ### data -/
mutual
def U.data : U → Option PyData
  | .non => some .none
  | .bl b => some (.bool b)
  | .int i => some (.int i)
  | .str s => some (.str s)
  | .tup us => (U.datas us).map .tuple
  | .lst us => (U.datas us).map .list
  | .dct _ _ => none
  | .kdt _ _ => none
  | .fz _ => none
  | .ref _ => none
def U.datas : List U → Option (List PyData)
  | [] => some []
  | u :: us => (U.data u).bind fun d => (U.datas us).map fun ds => d :: ds
end
def pyEq (S : Sto) (a b : U) : Option Bool := (U.data a).bind fun d => (U.data b).bind fun e =>
  if (SeqAt.shaped d && SeqAt.shaped e) = true then some (PyData.eqv d e) else none

/-- a key -/
def U.key : U → Option Key
  | .int i => some (.inl i)
  | .str s => some (.inr s)
  | _ => none
/-- the items of what is a list -/
def U.items (S : Sto) : U → Option (List U)
  | .lst us => some us
  | .fz us => some us
  | .ref n => match S[n]? with
    | some (.lst us) => some us
    | none => none
  | _ => none
def flat : U → Bool
  | .non => true
  | .bl _ => true
  | .int _ => true
  | .str _ => true
  | _ => false
def flatV? : U → Option V
  | .non => some .non
  | .bl b => some (.bl b)
  | .int i => some (.int i)
  | .str s => some (.str s)
  | _ => none
/-- x among flat things -/
def inFlat (x : U) (us : List U) : Option Bool := (flatV? x).bind fun v => (us.mapM flatV?).map fun vs => inV v vs
def dctGet (ks : List Key) (us : List U) (k : Key) : Option U := match ks, us with
  | q :: ks, u :: us => if q = k then some u else dctGet ks us k
  | _, _ => none
def cutL {α : Type} (xs : List α) (lo hi : Option Int) : List α := (xs.drop (HT.sIx xs.length 0 lo)).take (HT.sIx xs.length xs.length hi - HT.sIx xs.length 0 lo)

/-! ### primitive operations -/
inductive Bop where
  | add | sub | mul | fdiv | mod | pow
  deriving DecidableEq
inductive Cop where
  | eq | ne | lt | le | gt | ge | isin | notin | isN | notN
  deriving DecidableEq
inductive Ty where
  | int | bool | str | tuple | list | dict
  deriving DecidableEq
inductive Fn where
  | len | all | any | tuple | list | abs | str | int | min
  deriving DecidableEq

/-- methods of one argument -/
inductive Met where
  | split | part | join | starts | ends | index
  deriving DecidableEq
/-- what a primitive gives: a value, or a new list -/
inductive PR where
  | val (u : U)
  | newL (us : List U)

def big : Nat := 100000

def bop (o : Bop) (S : Sto) (a b : U) : Option PR := match o, a, b with
  | .add, .int i, .int j => some (.val (.int (i + j)))
  | .sub, .int i, .int j => some (.val (.int (i - j)))
  | .mul, .int i, .int j => if i.natAbs < 18446744073709551616 ∨ j.natAbs < 18446744073709551616 then some (.val (.int (i * j))) else none
  | .fdiv, .int i, .int j => if 0 < j ∧ j < 18446744073709551616 then some (.val (.int (i / j))) else none
  | .mod, .int i, .int j => if 0 < j then some (.val (.int (i % j))) else none
  | .pow, .int i, .int j => if 0 ≤ j ∧ j ≤ 1000 ∧ i.natAbs < 18446744073709551616 then some (.val (.int (i ^ j.toNat))) else none
  | .add, .lst us, .lst ws => if us.length + ws.length ≤ big then some (.newL (us ++ ws)) else none
  | .add, .tup us, .tup ws => if us.length + ws.length ≤ big then some (.val (.tup (us ++ ws))) else none
  | .add, .str a, .str b => if a.length + b.length ≤ big then some (.val (.str (a ++ b))) else none
  | .mul, .str a, .int k => if 2 ≤ k ∧ k ≤ 1000 ∧ 1 ≤ a.length ∧ a.length ≤ 90 then some (.val (.str (Txt.mul a k))) else none
  | .mul, .lst us, .int k => if -1000 ≤ k ∧ k ≤ 1000 ∧ us.length ≤ 90 then some (.newL (List.replicate k.toNat us).flatten) else none
  | .mul, .tup us, .int k => if us.isEmpty = false ∧ 2 ≤ k ∧ k ≤ 1000 ∧ us.length ≤ 1000 then some (.val (.tup (List.replicate k.toNat us).flatten)) else none
  | _, _, _ => none
/-- x among data -/
def inDat (x : U) (us : List U) : Option Bool := (U.data x).bind fun d => (U.datas us).bind fun ds => if (SeqAt.shaped d && SeqAt.shaped (.list ds)) = true then some (ds.any fun z => PyData.eqv z d) else none
def inL (x : U) (us : List U) : Option Bool := match inFlat x us with
  | some k => some k
  | none => inDat x us
/-- a text of one sign -/
def signOf (s : Str) : Option Nat := match s.cps.toList with
  | [c] => some c
  | _ => none
def cop (o : Cop) (S : Sto) (a b : U) : Option Bool := match o with
  | .eq => pyEq S a b
  | .ne => (pyEq S a b).map (!·)
  | .lt => match a, b with | .int i, .int j => some (decide (i < j)) | _, _ => none
  | .le => match a, b with | .int i, .int j => some (decide (i ≤ j)) | _, _ => none
  | .gt => match a, b with | .int i, .int j => some (decide (j < i)) | _, _ => none
  | .ge => match a, b with | .int i, .int j => some (decide (j ≤ i)) | _, _ => none
  | .isN => match a, b with | .ref _, _ => none | .non, .non => some true | _, .non => some false | _, _ => none
  | .notN => match a, b with | .ref _, _ => none | .non, .non => some false | _, .non => some true | _, _ => none
  | .isin => match b with
    | .tup us => inFlat a us
    | .lst us => inL a us
    | .str z => (match a with
      | .str c => (signOf c).map fun n => decide (n ∈ z.cps.toList)
      | _ => none)
    | .dct ks us => (U.key a).map fun k => (dctGet ks us k).isSome
    | .kdt ks us => match a with
      | .str x => some (dctGet ks us (.inr x)).isSome
      | _ => none
    | _ => none
  | .notin => match b with
    | .tup us => (inFlat a us).map (!·)
    | .lst us => (inL a us).map (!·)
    | .str z => (match a with
      | .str c => (signOf c).map fun n => !decide (n ∈ z.cps.toList)
      | _ => none)
    | .dct ks us => (U.key a).map fun k => !(dctGet ks us k).isSome
    | .kdt ks us => match a with
      | .str x => some (!(dctGet ks us (.inr x)).isSome)
      | _ => none
    | _ => none
def tyIs : Ty → U → Option Bool
  | .int, .int _ => some true
  | .int, .bl _ => some true
  | .bool, .bl _ => some true
  | .str, .str _ => some true
  | .tuple, .tup _ => some true
  | .list, .lst _ => some true
  | .dict, .dct _ _ => some true
  | _, .ref _ => none
  | _, .fz _ => none
  | _, .kdt _ _ => none
  | _, _ => some false
def tyAny : List Ty → U → Option Bool
  | [], _ => some false
  | t :: ts, u => (tyIs t u).bind fun b => if b = true then some true else tyAny ts u
def bls : List U → Option (List Bool)
  | [] => some []
  | .bl b :: us => (bls us).map (b :: ·)
  | _ :: _ => none
/-- the signs of a text -/
def signsU (z : Str) : List U := z.cps.toList.map fun c => .str ⟨#[c]⟩
def intsOf : List U → Option (List Int)
  | [] => some []
  | .int i :: us => (intsOf us).map (i :: ·)
  | _ :: _ => none
def leastOf : List Int → Option Int
  | [] => none
  | [i] => some i
  | i :: j :: is => (leastOf (j :: is)).map fun m => if i ≤ m then i else m
def fnc (f : Fn) (S : Sto) (us : List U) : Option PR := match f, us with
  | .len, [.tup ws] => some (.val (.int ws.length))
  | .len, [.dct ks _] => some (.val (.int ks.length))
  | .len, [.str z] => if z.length ≤ big then some (.val (.int z.length)) else none
  | .len, [u] => (U.items S u).map fun ws => .val (.int ws.length)
  | .all, [u] => (U.items S u).bind fun ws => (bls ws).map fun bs => .val (.bl (bs.all id))
  | .any, [u] => (U.items S u).bind fun ws => (bls ws).map fun bs => .val (.bl (bs.any id))
  | .tuple, [.tup ws] => some (.val (.tup ws))
  | .tuple, [u] => (U.items S u).map fun ws => .val (.tup ws)
  | .list, [.tup ws] => some (.newL ws)
  | .list, [.str z] => if z.length ≤ big then some (.newL (signsU z)) else none
  | .list, [u] => (U.items S u).map fun ws => .newL ws
  | .abs, [.int i] => some (.val (.int (if i < 0 then -i else i)))
  | .str, [.int i] => if i.natAbs.log2 < 1920 then some (.val (.str (toString i))) else none
  | .int, [.bl b] => some (.val (.int (if b then 1 else 0)))
  | .min, [.lst us] => (intsOf us).bind fun ns => (leastOf ns).map fun m => .val (.int m)
  | .int, [.str z] => if z.length ≤ 640 then (PySem.intText? z).map fun n => .val (.int n) else none
  | _, _ => none
def strsOf : List U → Option (List Str)
  | [] => some []
  | .str z :: us => (strsOf us).map (z :: ·)
  | _ :: _ => none
def firstAt (d : PyData) : List PyData → Nat → Option Nat
  | [], _ => none
  | z :: zs, n => if PyData.eqv z d = true then some n else firstAt d zs (n + 1)
/-- o.m(e) -/
def met (m : Met) (o e : U) : Option PR := match m, o, e with
  | .split, .str a, .str b => if (b.length == 0) = false ∧ a.length + 2 ≤ big then some (.newL ((Txt.split a b).map .str)) else none
  | .part, .str a, .str b => if (b.length == 0) = false ∧ a.length ≤ big then some (.val (.tup [.str (Txt.partition a b).1, .str (Txt.partition a b).2.1, .str (Txt.partition a b).2.2])) else none
  | .join, .str a, .lst us => (strsOf us).bind fun ys => if (ys.map (·.length)).sum + ys.length * a.length ≤ big then some (.val (.str (Txt.join a ys))) else none
  | .starts, .str a, .str b => some (.val (.bl (Txt.startswith a b)))
  | .ends, .str a, .str b => some (.val (.bl (Txt.endswith a b)))
  | .index, .lst us, e => (U.datas us).bind fun ds => (U.data e).bind fun d => if (SeqAt.shaped (.list ds) && SeqAt.shaped d) = true then (firstAt d ds 0).map fun j => .val (.int (j : Nat)) else none
  | _, _, _ => none
def metTy : Met → U → Bool
  | .index, .lst _ => true
  | .index, _ => false
  | _, .str _ => true
  | _, _ => false
/-- {x} -/
def fmtU : U → Option U
  | .str y => if y.length ≤ big then some (.str y) else none
  | .int i => if i.natAbs.log2 < 1920 then some (.str (toString i)) else none
  | _ => none
/-- o[i] -/
def item (S : Sto) (o i : U) : Option U := match o, i with
  | .tup us, .int j => atI us j
  | .dct ks us, k => (U.key k).bind fun k => dctGet ks us k
  | .kdt ks us, .str x => dctGet ks us (.inr x)
  | o, .int j => (U.items S o).bind fun us => atI us j
  | _, _ => none
/-- o[lo:hi] -/
def cut (S : Sto) (o : U) (lo hi : Option Int) : Option PR := match o with
  | .tup us => some (.val (.tup (cutL us lo hi)))
  | .str z => if z.length ≤ big then some (.val (.str (cutS z lo hi))) else none
  | o => (U.items S o).map fun us => .newL (cutL us lo hi)
/-- truth -/
def truth (S : Sto) : U → Option Bool
  | .non => some false
  | .bl b => some b
  | .int i => some (i != 0)
  | .tup us => some (!us.isEmpty)
  | .lst us => some (!us.isEmpty)
  | _ => none

/-! ### slots -/
inductive SL where
  | no
  | val (u : U)
  | own (us : List U)
abbrev Slots := List SL
def unown : SL → SL
  | .own us => .val (.lst us)
  | s => s
def wipeS (σ : Slots) : List Nat → Slots
  | [] => σ
  | i :: is => wipeS (σ.set i .no) is

/-! ### syntax -/
/-- targets: a slot; some targets; some slots and one for the rest -/
inductive LT where
  | nm (i : Nat)
  | tp (ts : List LT)
  | st (is : List Nat) (j : Nat)

mutual
inductive LE where
  | bad
  | c (u : U)
  | v (i : Nat)
  /-- a list that a slot owns, looked at -/
  | b (i : Nat)
  /-- a field of a caught error in a slot -/
  | xf (i : Nat) (f : Str)
  /-- a constant of the module -/
  | g (x : Str)
  | op (o : Bop) (a b : LE)
  | neg (a : LE)
  | cmp (o : Cop) (a b : LE)
  | chn (o o' : Cop) (a b c : LE)
  | not (a : LE)
  | and (a b : LE)
  | or (a b : LE)
  | ite (t : LC) (a b : LE)
  | tup (es : LEs)
  | lst (es : LEs)
  /-- a list that goes to the store -/
  | sto (es : LEs)
  | dct (ks : List Key) (es : LEs)
  | sub (a i : LE)
  | slc (a : LE) (lo hi : LO)
  | fn (f : Fn) (e : LE)
  | isi (a : LE) (t : Ty)
  | isiT (a : LE) (ts : List Ty)
  | call (f : Str) (es : LEs)
  | lc (own : List Nat) (tg : LT) (it : LI) (cs : LK) (e : LE)
  /-- o.m(e) -/
  | m1 (m : Met) (o e : LE)
  /-- f'..' -/
  | fs (es : LEs)
  | fv (e : LE)
inductive LEs where
  | nil
  | cons (e : LE) (es : LEs)
inductive LO where
  | non
  | som (e : LE)
/-- a test -/
inductive LC where
  | e (e : LE)
  | cmp (o : Cop) (a b : LE)
  | chn (o o' : Cop) (a b c : LE)
  | and (a b : LC)
  | or (a b : LC)
  | not (a : LC)
inductive LK where
  | non
  | som (c : LC)
/-- what is walked -/
inductive LI where
  | seq (e : LE)
  | rng1 (b : LE)
  | rng2 (a b : LE)
end

/-- what a handler's suite says: constants, slots, fields of the caught error, tuples -/
inductive XE where
  | c (u : U)
  | v (i : Nat)
  | xf (f : Str)
  | tup (es : List XE)
/-- a handler's suite -/
inductive XS where
  | ret (e : XE)
  | asg (i : Nat) (e : XE)
def LEs.len : LEs → Nat
  | .nil => 0
  | .cons _ es => es.len + 1
mutual
inductive LS where
  | asg (t : LT) (e : LE)
  /-- names = values, at once -/
  | par (is : List Nat) (es : LEs)
  /-- o[i] = e, o in the store -/
  | setI (o i e : LE)
  | ex (e : LE)
  | ret (e : LE)
  | ite (t : LC) (a b : LSs)
  | loop (t : LT) (it : LI) (body : LSs)
  | whl (t : LC) (body : LSs)
  | brk
  | cnt
  | pss
  | rse (c : Str) (es : LEs)
  /-- x = e, a new list that the slot owns -/
  | own (i : Nat) (e : LE)
  /-- x.append(e), x[j] = e of an owned list -/
  | appO (i : Nat) (e : LE)
  | setO (i : Nat) (j e : LE)
  /-- an owned list changes no more (no statement of the text) -/
  | relO (i : Nat)
  /-- one handler: its classes, the slot of its name, its suite -/
  | tri (body : LSs) (cs : List Str) (nm : Option Nat) (su : XS)
inductive LSs where
  | nil
  | cons (s : LS) (ss : LSs)
end

/-! ### the evaluator -/
/-- what stands around: constants, errors (fields of one that is made; which class lies under which), calls -/
structure Cn where
  g : Str → Option U
  xm : Str → List U → Option (List (Str × U))
  sub : Str → Str → Option Bool
  has : Str → Bool
  /-- fields of errors that may be read -/
  fld : Str → Str → Bool
abbrev CF := Str → List U → Sto → R U

mutual
def LT.slots : LT → List Nat
  | .nm i => [i]
  | .tp ts => LT.slotss ts
  | .st is j => is ++ [j]
def LT.slotss : List LT → List Nat
  | [] => []
  | t :: ts => LT.slots t ++ LT.slotss ts
end
def assign : LT → U → Slots → Option Slots
  | .nm i, u, σ => some (σ.set i (.val u))
  | .tp ts, .tup us, σ => assigns ts us σ
  | .st is j, .tup us, σ => if is.length ≤ us.length then some ((setAll is us σ).set j (.val (.lst (us.drop is.length)))) else none
  | .st is j, .lst us, σ => if is.length ≤ us.length then some ((setAll is us σ).set j (.val (.lst (us.drop is.length)))) else none
  | _, _, _ => none
where
  assigns : List LT → List U → Slots → Option Slots
    | [], [], σ => some σ
    | t :: ts, u :: us, σ => (assign t u σ).bind fun σ => assigns ts us σ
    | _, _, _ => none
  setAll : List Nat → List U → Slots → Slots
    | i :: is, u :: us, σ => setAll is us (σ.set i (.val u))
    | _, _, σ => σ

def PR.get : PR → U
  | .val u => u
  | .newL us => .lst us
def retP (o : Option PR) (S : Sto) : R U := match o with
  | some p => .ok p.get S
  | none => .bad
def retB (o : Option Bool) (S : Sto) : R U := match o with
  | some b => .ok (.bl b) S
  | none => .bad
def retT (o : Option Bool) (S : Sto) : R Bool := match o with
  | some b => .ok b S
  | none => .bad
def retU (o : Option U) (S : Sto) : R U := match o with
  | some u => .ok u S
  | none => .bad
/-- the turns of a comprehension -/
def evLc (turn : U → Sto → R (Option U)) : List U → List U → Sto → R U
  | [], acc, S => .ok (.lst acc) S
  | u :: us, acc, S => (turn u S).bindN fun o S1 => match o with
    | some w => evLc turn us (acc ++ [w]) S1
    | none => evLc turn us acc S1
def rangeU (a b : Int) : List U := (List.range (b - a).toNat).map fun (k : Nat) => .int (a + (k : Int))

def borOf (σ : Slots) : LE → Option (Option U)
  | .b i => match σ[i]? with
    | some (.own us) => some (some (.lst us))
    | _ => some none
  | _ => none
/-- a value that is only looked at -/
def lookB (o : Option (Option U)) (r : R U) (S : Sto) : R U := match o with
  | some (some u) => .ok u S
  | some none => .bad
  | none => r
mutual
def evE (N : Cn) (cf : CF) (σ : Slots) : LE → Sto → R U
  | .bad, _ => .bad
  | .c u, S => .ok u S
  | .v i, S => match σ[i]? with
    | some (.val u) => .ok u S
    | _ => .bad
  | .b i, S => .bad
  | .xf i f, S => .bad
  | .g x, S => retU (N.g x) S
  | .op o a b, S => (lookB (borOf σ a) (evE N cf σ a S) S).bind fun x S1 => (lookB (borOf σ b) (evE N cf σ b S1) S1).bind fun y S2 => retP (bop o S2 x y) S2
  | .neg a, S => (evE N cf σ a S).bind fun x S1 => match x with
    | .int i => .ok (.int (-i)) S1
    | _ => .bad
  | .cmp o a b, S => (lookB (borOf σ a) (evE N cf σ a S) S).bind fun x S1 => (lookB (borOf σ b) (evE N cf σ b S1) S1).bind fun y S2 => retB (cop o S2 x y) S2
  | .chn o o' a b c, S => (evE N cf σ a S).bind fun x S1 => (evE N cf σ b S1).bind fun y S2 => match cop o S2 x y with
    | some true => (evE N cf σ c S2).bind fun z S3 => retB (cop o' S3 y z) S3
    | some false => .ok (.bl false) S2
    | none => .bad
  | .not a, S => (evE N cf σ a S).bind fun u S1 => match truth S1 u with
    | some k => .ok (.bl (!k)) S1
    | none => .bad
  | .and a b, S => (evE N cf σ a S).bind fun x S1 => match x with
    | .bl true => evE N cf σ b S1
    | .bl false => .ok (.bl false) S1
    | _ => .bad
  | .or a b, S => (evE N cf σ a S).bind fun x S1 => match x with
    | .bl true => .ok (.bl true) S1
    | .bl false => evE N cf σ b S1
    | _ => .bad
  | .ite t a b, S => (evT N cf σ t S).bind fun k S1 => if k = true then evE N cf σ a S1 else evE N cf σ b S1
  | .tup es, S => (evEs N cf σ es S).bind fun us S1 => if us.length ≤ big then .ok (.tup us) S1 else .bad
  | .lst es, S => (evEs N cf σ es S).bind fun us S1 => if us.length ≤ big then .ok (.lst us) S1 else .bad
  | .sto es, S => (evEs N cf σ es S).bind fun us S1 => if us.length ≤ big then .ok (.ref S1.length) (S1 ++ [.lst us]) else .bad
  | .dct ks es, S => (evEs N cf σ es S).bind fun us S1 => if us.length = ks.length ∧ ks.length ≤ 15 ∧ ks.Nodup then .ok (.dct ks us) S1 else .bad
  | .sub a i, S => (lookB (borOf σ a) (evE N cf σ a S) S).bind fun x S1 => (evE N cf σ i S1).bind fun y S2 => retU (item S2 x y) S2
  | .slc a lo hi, S => (lookB (borOf σ a) (evE N cf σ a S) S).bind fun x S1 => (evO N cf σ lo S1).bind fun l S2 => (evO N cf σ hi S2).bind fun h S3 => retP (cut S3 x l h) S3
  | .fn f e, S => (lookB (borOf σ e) (evE N cf σ e S) S).bind fun x S1 => retP (fnc f S1 [x]) S1
  | .isi a t, S => (evE N cf σ a S).bind fun x S1 => retB (tyIs t x) S1
  | .isiT a ts, S => (evE N cf σ a S).bind fun x S1 => if ts ≠ [] ∧ ts.length ≤ 100 then retB (tyAny ts x) S1 else .bad
  | .call f es, S => if N.has f = true then (evEs N cf σ es S).bind fun us S1 => cf f us S1 else .bad
  | .lc own tg it cs e, S => (evI N cf σ it S).bind fun us S1 => if us.length ≤ big then evLc (fun u S2 => match assign tg u (wipeS σ own) with
    | some σ1 => (evC N cf σ1 cs S2).bind fun k S3 => if k = true then (evE N cf σ1 e S3).bind fun w S4 => .ok (some w) S4 else .ok none S3
    | none => .bad) us [] S1 else .bad
  | .m1 m o e, S => (evE N cf σ o S).bind fun x S1 => if metTy m x = true then (lookB (borOf σ e) (evE N cf σ e S1) S1).bind fun y S2 => retP (met m x y) S2 else .bad
  | .fs es, S => (evJs N cf σ es Str.empty S).bind fun z S1 => .ok (.str z) S1
  | .fv e, S => (evE N cf σ e S).bind fun x S1 => retU (fmtU x) S1
def evEs (N : Cn) (cf : CF) (σ : Slots) : LEs → Sto → R (List U)
  | .nil, S => .ok [] S
  | .cons e es, S => (evE N cf σ e S).bind fun u S1 => (evEs N cf σ es S1).bind fun us S2 => .ok (u :: us) S2
/-- the parts of an f-string -/
def evJs (N : Cn) (cf : CF) (σ : Slots) : LEs → Str → Sto → R Str
  | .nil, acc, S => .ok acc S
  | .cons e es, acc, S => (evE N cf σ e S).bind fun u S1 => match u with
    | .str y => if (acc ++ y).length ≤ big then evJs N cf σ es (acc ++ y) S1 else .bad
    | _ => .bad
def evO (N : Cn) (cf : CF) (σ : Slots) : LO → Sto → R (Option Int)
  | .non, S => .ok none S
  | .som e, S => (evE N cf σ e S).bind fun u S1 => match u with
    | .int i => .ok (some i) S1
    | _ => .bad
/-- a comprehension's test -/
def evC (N : Cn) (cf : CF) (σ : Slots) : LK → Sto → R Bool
  | .non, S => .ok true S
  | .som e, S => evT N cf σ e S
def evI (N : Cn) (cf : CF) (σ : Slots) : LI → Sto → R (List U)
  | .seq e, S => (evE N cf σ e S).bind fun u S1 => match u with
    | .tup us => .ok us S1
    | .lst us => .ok us S1
    | .str z => .ok (signsU z) S1
    | _ => .bad
  | .rng1 b, S => (evE N cf σ b S).bind fun u S1 => match u with
    | .int j => if -100000000000000000 < j ∧ j < 100000 then .ok (rangeU 0 j) S1 else .bad
    | _ => .bad
  | .rng2 a b, S => (evE N cf σ a S).bind fun u S1 => (evE N cf σ b S1).bind fun w S2 => match u, w with
    | .int i, .int j => if -100000000000000000 < i ∧ i < 100000000000000000 ∧ -100000000000000000 < j ∧ j < i + 100000 then .ok (rangeU i j) S2 else .bad
    | _, _ => .bad
/-- a test -/
def evT (N : Cn) (cf : CF) (σ : Slots) : LC → Sto → R Bool
  | .and a b, S => (evT N cf σ a S).bind fun k S1 => if k = true then evT N cf σ b S1 else .ok false S1
  | .or a b, S => (evT N cf σ a S).bind fun k S1 => if k = true then .ok true S1 else evT N cf σ b S1
  | .not a, S => (evT N cf σ a S).bind fun k S1 => .ok (!k) S1
  | .cmp o a b, S => (lookB (borOf σ a) (evE N cf σ a S) S).bind fun x S1 => (lookB (borOf σ b) (evE N cf σ b S1) S1).bind fun y S2 => retT (cop o S2 x y) S2
  | .chn o o' a b c, S => (evE N cf σ a S).bind fun x S1 => (evE N cf σ b S1).bind fun y S2 => match cop o S2 x y with
    | some true => (evE N cf σ c S2).bind fun z S3 => retT (cop o' S3 y z) S3
    | some false => .ok false S2
    | none => .bad
  | .e e, S => (evE N cf σ e S).bind fun u S1 => match truth S1 u with
    | some k => .ok k S1
    | none => .bad
end

/-- a new list -/
def newOf (o : Option PR) (S : Sto) : R (List U) := match o with
  | some (.newL us) => .ok us S
  | _ => .bad
def evP (N : Cn) (cf : CF) (σ : Slots) : LE → Sto → R (List U)
  | .op o a b, S => (lookB (borOf σ a) (evE N cf σ a S) S).bind fun x S1 => (lookB (borOf σ b) (evE N cf σ b S1) S1).bind fun y S2 => newOf (bop o S2 x y) S2
  | .m1 m o e, S => (evE N cf σ o S).bind fun x S1 => if metTy m x = true then (lookB (borOf σ e) (evE N cf σ e S1) S1).bind fun y S2 => newOf (met m x y) S2 else .bad
  | _, _ => .bad
/-! ### statements -/
inductive RS where
  | nx (σ : Slots) (S : Sto)
  | rt (u : U) (S : Sto)
  | bk (σ : Slots) (S : Sto)
  | ct (σ : Slots) (S : Sto)
  | exc (x : Exc) (σ : Slots) (S : Sto)
  | bad
/-- an expression in a statement -/
def R.then {α : Type} (r : R α) (σ : Slots) (k : α → Sto → RS) : RS := match r with
  | .ok a S => k a S
  | .exc x S => .exc x σ S
  | .bad => .bad
@[simp] theorem R.then_ok {α : Type} (a : α) (S : Sto) (σ : Slots) (k : α → Sto → RS) : (R.ok a S).then σ k = k a S := rfl
@[simp] theorem R.then_exc {α : Type} (x : Exc) (S : Sto) (σ : Slots) (k : α → Sto → RS) : (R.exc x S : R α).then σ k = .exc x σ S := rfl
@[simp] theorem R.then_bad {α : Type} (σ : Slots) (k : α → Sto → RS) : (R.bad : R α).then σ k = .bad := rfl
def RS.seq (r : RS) (k : Slots → Sto → RS) : RS := match r with
  | .nx σ S => k σ S
  | r => r
@[simp] theorem RS.seq_nx (σ : Slots) (S : Sto) (k : Slots → Sto → RS) : (RS.nx σ S).seq k = k σ S := rfl
@[simp] theorem RS.seq_rt (u : U) (S : Sto) (k : Slots → Sto → RS) : (RS.rt u S).seq k = .rt u S := rfl
@[simp] theorem RS.seq_exc (x : Exc) (σ : Slots) (S : Sto) (k : Slots → Sto → RS) : (RS.exc x σ S).seq k = .exc x σ S := rfl
@[simp] theorem RS.seq_bad (k : Slots → Sto → RS) : (RS.bad).seq k = .bad := rfl
@[simp] theorem RS.seq_bk (σ : Slots) (S : Sto) (k : Slots → Sto → RS) : (RS.bk σ S).seq k = .bk σ S := rfl
@[simp] theorem RS.seq_ct (σ : Slots) (S : Sto) (k : Slots → Sto → RS) : (RS.ct σ S).seq k = .ct σ S := rfl
def orBad (o : Option Slots) (S : Sto) : RS := match o with
  | some σ => .nx σ S
  | none => .bad
def evFor (turn : U → Slots → Sto → RS) : List U → Slots → Sto → RS
  | [], σ, S => .nx σ S
  | u :: us, σ, S => match turn u σ S with
    | .nx σ1 S1 => evFor turn us σ1 S1
    | .ct σ1 S1 => evFor turn us σ1 S1
    | .bk σ1 S1 => .nx σ1 S1
    | r => r
def evWhl (test : Slots → Sto → R Bool) (body : Slots → Sto → RS) : Nat → Slots → Sto → RS
  | 0, _, _ => .bad
  | n + 1, σ, S => (test σ S).then σ fun k S1 => if k = true then (match body σ S1 with
    | .nx σ1 S2 => evWhl test body n σ1 S2
    | .ct σ1 S2 => evWhl test body n σ1 S2
    | .bk σ1 S2 => .nx σ1 S2
    | r => r) else .nx σ S1
def whileFuel : Nat := 1000000
def setVals : List Nat → List U → Slots → Option Slots
  | [], [], σ => some σ
  | i :: is, u :: us, σ => setVals is us (σ.set i (.val u))
  | _, _, _ => none
/-- o[i] = u in the store -/
def stoSet (S : Sto) (o i u : U) : Option Sto := match o, i with
  | .ref n, .int j => match S[n]? with
    | some (.lst us) => (ixN us.length j).map fun k => S.set n (.lst (us.set k u))
    | none => none
  | _, _ => none
def subAny (sub : Str → Str → Option Bool) (x : Str) : List Str → Option Bool
  | [] => some false
  | c :: cs => (sub x c).bind fun b => if b = true then some true else subAny sub x cs

mutual
/-- in a handler's suite: x the caught error -/
def evX (N : Cn) (x : Exc) (σ : Slots) : XE → Option U
  | .c u => some u
  | .v i => match σ[i]? with
    | some (.val u) => some u
    | _ => none
  | .xf f => if N.fld x.cls f = true then x.fs.lookup f else none
  | .tup es => if es.length ≤ big then (evXs N x σ es).map .tup else none
def evXs (N : Cn) (x : Exc) (σ : Slots) : List XE → Option (List U)
  | [] => some []
  | e :: es => (evX N x σ e).bind fun u => (evXs N x σ es).map fun us => u :: us
end
def unname (nm : Option Nat) (σ : Slots) : Slots := match nm with
  | some i => σ.set i .no
  | none => σ
def okN (nm : Option Nat) (σ : Slots) : Bool := match nm with
  | some i => decide (i < σ.length)
  | none => true
def evSu (N : Cn) (x : Exc) (nm : Option Nat) (su : XS) (σ : Slots) (S : Sto) : RS := if okN nm σ = true then (match su with
  | .ret e => (match evX N x (unname nm σ) e with
    | some u => .rt u S
    | none => .bad)
  | .asg j e => (match evX N x (unname nm σ) e with
    | some u => .nx (unname nm ((unname nm σ).set j (.val u))) S
    | none => .bad)) else .bad
def isOwn : Option SL → Bool
  | some (.own _) => true
  | _ => false
def appS (σ : Slots) (i : Nat) (u : U) (S : Sto) : RS := match σ[i]? with
  | some (.own us) => if us.length < big then .nx (σ.set i (.own (us ++ [u]))) S else .bad
  | _ => .bad
def setS (σ : Slots) (i : Nat) (j u : U) (S : Sto) : RS := match σ[i]?, j with
  | some (.own us), .int j => (match ixN us.length j with
    | some k => .nx (σ.set i (.own (us.set k u))) S
    | none => .bad)
  | _, _ => .bad
def rlsS (σ : Slots) (i : Nat) (S : Sto) : RS := match σ[i]? with
  | some (.own us) => .nx (σ.set i (.val (.lst us))) S
  | _ => .bad
mutual
def evS (N : Cn) (cf : CF) : LS → Slots → Sto → RS
  | .asg t e, σ, S => (evE N cf σ e S).then σ fun u S1 => orBad (assign t u σ) S1
  | .par is es, σ, S => (evEs N cf σ es S).then σ fun us S1 => orBad (setVals is us σ) S1
  | .setI o i e, σ, S => (evE N cf σ e S).then σ fun u S1 => (evE N cf σ o S1).then σ fun x S2 => (evE N cf σ i S2).then σ fun y S3 => match stoSet S3 x y u with
    | some S4 => .nx σ S4
    | none => .bad
  | .ex e, σ, S => (evE N cf σ e S).then σ fun _ S1 => .nx σ S1
  | .ret e, σ, S => (evE N cf σ e S).then σ fun u S1 => .rt u S1
  | .ite t a b, σ, S => (evT N cf σ t S).then σ fun k S1 => if k = true then evSs N cf a σ S1 else evSs N cf b σ S1
  | .loop t it body, σ, S => (evI N cf σ it S).then σ fun us S1 => evFor (fun u σ S => match assign t u σ with
    | some σ1 => evSs N cf body σ1 S
    | none => .bad) us σ S1
  | .whl t body, σ, S => evWhl (fun σ S => evT N cf σ t S) (fun σ S => evSs N cf body σ S) whileFuel σ S
  | .brk, σ, S => .bk σ S
  | .cnt, σ, S => .ct σ S
  | .pss, σ, S => .nx σ S
  | .rse c es, σ, S => (evEs N cf σ es S).then σ fun us S1 => match N.xm c us with
    | some fs => .exc ⟨c, fs⟩ σ S1
    | none => .bad
  | .own i e, σ, S => (evP N cf σ e S).then σ fun us S1 => if i < σ.length then .nx (σ.set i (.own us)) S1 else .bad
  | .appO i e, σ, S => if isOwn σ[i]? = true then (evE N cf σ e S).then σ fun u S1 => appS σ i u S1 else .bad
  | .setO i j e, σ, S => (evE N cf σ e S).then σ fun u S1 => if isOwn σ[i]? = true then (evE N cf σ j S1).then σ fun y S2 => setS σ i y u S2 else .bad
  | .relO i, σ, S => rlsS σ i S
  | .tri body cs nm su, σ, S => match evSs N cf body σ S with
    | .exc x σ1 S1 => (match subAny N.sub x.cls cs with
      | some true => evSu N x nm su σ1 S1
      | some false => .exc x σ1 S1
      | none => .bad)
    | r => r
def evSs (N : Cn) (cf : CF) : LSs → Slots → Sto → RS
  | .nil, σ, S => .nx σ S
  | .cons s ss, σ, S => (evS N cf s σ S).seq fun σ1 S1 => evSs N cf ss σ1 S1
end

/-! ### functions -/
structure LFun where
  params : List Str
  names : List Str
  body : LSs
def startU (n : Nat) (us : List U) : Slots := us.map SL.val ++ List.replicate (n - us.length) .no
def endU (r : RS) : R U := match r with
  | .nx _ S => .ok .non S
  | .rt u S => .ok u S
  | .exc x _ S => .exc x S
  | _ => .bad
/-- a call, at most n calls deep -/
def callN (N : Cn) (T : Str → Option LFun) : Nat → CF
  | 0, _, _, _ => .bad
  | n + 1, f, us, S => match T f with
    | some F => if us.length = F.params.length then endU (evSs N (callN N T n) F.body (startU F.names.length us) S) else .bad
    | none => .bad
end Far

set_option Elab.async false
set_option linter.all false
set_option maxRecDepth 100000
set_option maxHeartbeats 4000000
/-! What the evaluator's values and states stand for in HandS's heaps. -/
namespace Far
open PySem PySem.Spec PyProof.Rows L2

/-- the entries of a written dict whose keys are texts -/
inductive KEnt : List DictEntry → List Key → List V → Prop
  | nil : KEnt [] [] []
  | cons {e : DictEntry} {x : Str} {t : Tok} {v : V} {es : List DictEntry} {ks : List Key} {vs : List V} : e.key = .str x t → RelV v e.val → KEnt es ks vs → KEnt (e :: es) (.inr x :: ks) (v :: vs)
def KDc (K : PySem.W.Frag) (w : World) (a : Addr) (ks : List Key) (vs : List V) : Prop := ∃ es n, L2.KDict K w a es n ∧ KEnt es.toList ks vs

section
variable {K : PySem.W.Frag} {w : World}

/-! u stands at v: F, the heap of what no longer changes; rho, where the store's things lie -/
mutual
inductive CV (K : PySem.W.Frag) (w : World) (F : Hp) (rho : List Addr) : U → V → Prop
  | non : CV K w F rho .non .non
  | bl (b : Bool) : CV K w F rho (.bl b) (.bl b)
  | int (i : Int) : CV K w F rho (.int i) (.int i)
  | str (s : Str) : CV K w F rho (.str s) (.str s)
  | tup {a : Addr} {us : List U} {vs : List V} : SqT K F a vs → CVs K w F rho us vs → CV K w F rho (.tup us) (.ref a)
  | lst {a : Addr} {us : List U} {vs : List V} : F a = some (.lst vs) → CVs K w F rho us vs → CV K w F rho (.lst us) (.ref a)
  | fz {a : Addr} {us : List U} {vs : List V} : SqL K F a vs → CVs K w F rho us vs → CV K w F rho (.fz us) (.ref a)
  | dct {a : Addr} {ks : List Key} {us : List U} {vs : List V} : F a = some (.dK (ks.zip vs)) → ks.length = vs.length → CVs K w F rho us vs → CV K w F rho (.dct ks us) (.ref a)
  | kdc {a : Addr} {ks : List Key} {us : List U} {vs : List V} : KDc K w a ks vs → CVs K w F rho us vs → CV K w F rho (.kdt ks us) (.ref a)
  | ref {n : Nat} {a : Addr} : rho[n]? = some a → CV K w F rho (.ref n) (.ref a)
inductive CVs (K : PySem.W.Frag) (w : World) (F : Hp) (rho : List Addr) : List U → List V → Prop
  | nil : CVs K w F rho [] []
  | cons {u : U} {v : V} {us : List U} {vs : List V} : CV K w F rho u v → CVs K w F rho us vs → CVs K w F rho (u :: us) (v :: vs)
end

theorem same_rd {H H' : Hp} (e : Same H H') {a : Addr} {u : HO} (h : Rd H a u) : Rd H' a u := by
  rcases h with h | ⟨o, h⟩
  · exact .inl (e _ _ h)
  · exact .inr ⟨o, e _ _ h⟩
theorem same_l {H H' : Hp} (e : Same H H') {a : Addr} {xs : List V} (h : SqL K H a xs) : SqL K H' a xs := by
  rcases h with h | h
  · exact .inl (same_rd e h)
  · exact .inr h
theorem same_t {H H' : Hp} (e : Same H H') {a : Addr} {xs : List V} (h : SqT K H a xs) : SqT K H' a xs := by
  rcases h with h | h
  · exact .inl (same_rd e h)
  · exact .inr h

def Pre (rho rho' : List Addr) : Prop := ∃ m, rho' = rho ++ m
theorem Pre.refl (rho : List Addr) : Pre rho rho := ⟨[], by simp⟩
theorem Pre.trans {a b c : List Addr} (h : Pre a b) (h' : Pre b c) : Pre a c := by
  obtain ⟨m, rfl⟩ := h
  obtain ⟨m', rfl⟩ := h'
  exact ⟨m ++ m', by simp⟩
theorem Pre.get {a b : List Addr} (h : Pre a b) {n : Nat} {x : Addr} (e : a[n]? = some x) : b[n]? = some x := by
  obtain ⟨m, rfl⟩ := h
  have hlt : n < a.length := (List.getElem?_eq_some_iff.mp e).1
  rw [List.getElem?_append_left hlt]
  exact e
theorem Pre.mem {a b : List Addr} (h : Pre a b) {x : Addr} (e : x ∈ a) : x ∈ b := by
  obtain ⟨m, rfl⟩ := h
  exact List.mem_append_left _ e

mutual
theorem CV.mono {F F' : Hp} {rho rho' : List Addr} (e : Same F F') (p : Pre rho rho') : ∀ {u : U} {v : V}, CV K w F rho u v → CV K w F' rho' u v
  | _, _, .non => .non
  | _, _, .bl b => .bl b
  | _, _, .int i => .int i
  | _, _, .str s => .str s
  | _, _, .tup h hs => .tup (same_t e h) (CVs.mono e p hs)
  | _, _, .lst h hs => .lst (e _ _ h) (CVs.mono e p hs)
  | _, _, .fz h hs => .fz (same_l e h) (CVs.mono e p hs)
  | _, _, .dct h l hs => .dct (e _ _ h) l (CVs.mono e p hs)
  | _, _, .kdc h hs => .kdc h (CVs.mono e p hs)
  | _, _, .ref h => .ref (p.get h)
theorem CVs.mono {F F' : Hp} {rho rho' : List Addr} (e : Same F F') (p : Pre rho rho') : ∀ {us : List U} {vs : List V}, CVs K w F rho us vs → CVs K w F' rho' us vs
  | _, _, .nil => .nil
  | _, _, .cons h hs => .cons (CV.mono e p h) (CVs.mono e p hs)
end
theorem CVs.length {F : Hp} {rho : List Addr} : ∀ {us : List U} {vs : List V}, CVs K w F rho us vs → us.length = vs.length
  | _, _, .nil => rfl
  | _, _, .cons _ hs => by rw [List.length_cons, List.length_cons, CVs.length hs]
theorem CVs.get {F : Hp} {rho : List Addr} : ∀ {us : List U} {vs : List V} {i : Nat} {u : U}, CVs K w F rho us vs → us[i]? = some u → ∃ v, vs[i]? = some v ∧ CV K w F rho u v
  | _, _, _, _, .nil, e => by simp at e
  | _, _, 0, _, .cons h _, e => by simp at e; subst e; exact ⟨_, rfl, h⟩
  | _, _, i + 1, u, .cons _ hs, e => by
    obtain ⟨v, h1, h2⟩ := CVs.get (i := i) (u := u) hs (by simpa using e)
    exact ⟨v, by simpa using h1, h2⟩
theorem CVs.append {F : Hp} {rho : List Addr} : ∀ {us ws : List U} {vs xs : List V}, CVs K w F rho us vs → CVs K w F rho ws xs → CVs K w F rho (us ++ ws) (vs ++ xs)
  | _, _, _, _, .nil, s => s
  | _, _, _, _, .cons h hs, s => .cons h (CVs.append hs s)
theorem CVs.drop {F : Hp} {rho : List Addr} : ∀ {us : List U} {vs : List V} (n : Nat), CVs K w F rho us vs → CVs K w F rho (us.drop n) (vs.drop n)
  | _, _, 0, h => h
  | _, _, _ + 1, .nil => .nil
  | _, _, n + 1, .cons _ hs => CVs.drop n hs
theorem CVs.take {F : Hp} {rho : List Addr} : ∀ {us : List U} {vs : List V} (n : Nat), CVs K w F rho us vs → CVs K w F rho (us.take n) (vs.take n)
  | _, _, 0, _ => .nil
  | _, _, _ + 1, .nil => .nil
  | _, _, n + 1, .cons h hs => .cons h (CVs.take n hs)
theorem CVs.set {F : Hp} {rho : List Addr} {u : U} {v : V} (h : CV K w F rho u v) : ∀ {us : List U} {vs : List V} (n : Nat), CVs K w F rho us vs → CVs K w F rho (us.set n u) (vs.set n v)
  | _, _, _, .nil => .nil
  | _, _, 0, .cons _ hs => .cons h hs
  | _, _, n + 1, .cons q hs => .cons q (CVs.set h n hs)
theorem CVs.cut {F : Hp} {rho : List Addr} {us : List U} {vs : List V} (h : CVs K w F rho us vs) (lo hi : Option Int) : CVs K w F rho (cutL us lo hi) (cutV vs lo hi) := by
  have e := h.length
  unfold cutL cutV
  rw [e]
  exact CVs.take _ (CVs.drop _ h)

/-- what stands in the store -/
def SOk (K : PySem.W.Frag) (w : World) (F : Hp) (rho : List Addr) : SO → HO → Prop
  | .lst us, o => ∃ vs, o = .lst vs ∧ CVs K w F rho us vs
theorem SOk.mono {F F' : Hp} {rho rho' : List Addr} (e : Same F F') (p : Pre rho rho') {s : SO} {o : HO} (h : SOk K w F rho s o) : SOk K w F' rho' s o := by
  cases s with
  | lst us =>
    obtain ⟨vs, rfl, q⟩ := h
    exact ⟨vs, rfl, q.mono e p⟩

/-- the state: what is frozen lies in the heap, so does the store, apart from it -/
structure St (K : PySem.W.Frag) (w : World) (F H : Hp) (rho : List Addr) (S : Sto) : Prop where
  sub : Same F H
  len : rho.length = S.length
  nd : rho.Nodup
  sto : ∀ (n : Nat) (a : Addr) (o : SO), rho[n]? = some a → S[n]? = some o → F a = none ∧ ∃ ho, H a = some ho ∧ SOk K w F rho o ho
theorem St.at {F H : Hp} {rho : List Addr} {S : Sto} (h : St K w F H rho S) {n : Nat} {a : Addr} (e : rho[n]? = some a) : ∃ o ho, S[n]? = some o ∧ F a = none ∧ H a = some ho ∧ SOk K w F rho o ho := by
  have hlt : n < S.length := by
    rw [← h.len]
    exact (List.getElem?_eq_some_iff.mp e).1
  obtain ⟨f, ho, h1, h2⟩ := h.sto n a S[n] e (List.getElem?_eq_getElem hlt)
  exact ⟨S[n], ho, List.getElem?_eq_getElem hlt, f, h1, h2⟩
theorem St.mem {F H : Hp} {rho : List Addr} {S : Sto} (h : St K w F H rho S) {a : Addr} (e : a ∈ rho) : F a = none ∧ ∃ ho, H a = some ho := by
  obtain ⟨n, hn⟩ := List.mem_iff_getElem?.mp e
  obtain ⟨o, ho, _, f, q, _⟩ := h.at hn
  exact ⟨f, ho, q⟩

/-- from one state to a later one, as a pure step may bring it -/
structure Grow (F H : Hp) (rho : List Addr) (F' H' : Hp) (rho' : List Addr) : Prop where
  fex : Same F F'
  fnew : ∀ a o, F' a = some o → F a = some o ∨ H a = none
  rex : Pre rho rho'
  rnew : ∀ a ∈ rho', a ∈ rho ∨ H a = none
  keep : ∀ a o, H a = some o → a ∉ rho → H' a = some o
  dom : ∀ a, H' a = none → H a = none
theorem Grow.refl (F H : Hp) (rho : List Addr) : Grow F H rho F H rho := ⟨Same.refl _, fun _ _ h => .inl h, Pre.refl _, fun _ h => .inl h, fun _ _ h _ => h, fun _ h => h⟩
theorem Grow.trans {F H F1 H1 F2 H2 : Hp} {rho rho1 rho2 : List Addr} (a : Grow F H rho F1 H1 rho1) (b : Grow F1 H1 rho1 F2 H2 rho2) : Grow F H rho F2 H2 rho2 where
  fex := a.fex.trans b.fex
  fnew := fun x o h => by
    rcases b.fnew x o h with h | h
    · exact a.fnew x o h
    · exact .inr (a.dom x h)
  rex := a.rex.trans b.rex
  rnew := fun x h => by
    rcases b.rnew x h with h | h
    · exact a.rnew x h
    · exact .inr (a.dom x h)
  keep := fun x o h n => b.keep x o (a.keep x o h n) fun z => by
    rcases a.rnew x z with z | z
    · exact n z
    · rw [h] at z; cases z
  dom := fun x h => a.dom x (b.dom x h)

theorem same_free {F H : Hp} (s : Same F H) {p : Addr} (h : H p = none) : F p = none := s.free h
theorem same_upd {F F' : Hp} (h : F p = none) (e : Same F F') {o : HO} : Same F (upd F' p o) := fun a u q => by
  rw [upd_ne (ne_of_none q h)]
  exact e a u q
/-- a new thing that is frozen at once -/
theorem Grow.new {F H : Hp} {rho : List Addr} {p : Addr} {o : HO} (s : Same F H) (h : H p = none) : Grow F H rho (upd F p o) (upd H p o) rho where
  fex := same_upd (s.free h) (Same.refl F)
  fnew := fun a u e => by
    by_cases z : a = p
    · subst z; exact .inr h
    · rw [upd_ne z] at e; exact .inl e
  rex := Pre.refl _
  rnew := fun _ h => .inl h
  keep := fun a u e _ => by rw [upd_ne (ne_of_none e h)]; exact e
  dom := fun a e => by
    by_cases z : a = p
    · subst z; exact h
    · rw [upd_ne z] at e; exact e
/-- a new thing that is not frozen -/
theorem Grow.lay {F H : Hp} {rho : List Addr} {p : Addr} {o : HO} (h : H p = none) : Grow F H rho F (upd H p o) rho where
  fex := Same.refl F
  fnew := fun a u e => .inl e
  rex := Pre.refl _
  rnew := fun _ h => .inl h
  keep := fun a u e _ => by rw [upd_ne (ne_of_none e h)]; exact e
  dom := fun a e => by
    by_cases z : a = p
    · subst z; exact h
    · rw [upd_ne z] at e; exact e
/-- heaps that hold more, the store as it was -/
theorem St.more {F H F' H' : Hp} {rho : List Addr} {S : Sto} (h : St K w F H rho S) (g : Grow F H rho F' H' rho) (s : Same F' H') (k : Same H H') : St K w F' H' rho S where
  sub := s
  len := h.len
  nd := h.nd
  sto := fun n a o e1 e2 => by
    obtain ⟨f, ho, q, r⟩ := h.sto n a o e1 e2
    refine ⟨?_, ho, k _ _ q, r.mono g.fex (Pre.refl _)⟩
    cases z : F' a with
    | none => rfl
    | some x =>
      rcases g.fnew a x z with y | y
      · rw [f] at y; cases y
      · rw [q] at y; cases y

/-- a value that is only looked at: it stands, or a slot owns it -/
inductive CVb (K : PySem.W.Frag) (w : World) (F H : Hp) (rho : List Addr) : U → V → Prop
  | of {u : U} {v : V} : CV K w F rho u v → CVb K w F H rho u v
  | bor {p : Addr} {us : List U} {vs : List V} : F p = none → p ∉ rho → H p = some (.lst vs) → CVs K w F rho us vs → CVb K w F H rho (.lst us) (.ref p)
theorem CVb.grow {F H F' H' : Hp} {rho rho' : List Addr} (g : Grow F H rho F' H' rho') {u : U} {v : V} (h : CVb K w F H rho u v) : CVb K w F' H' rho' u v := by
  cases h with
  | of h => exact .of (h.mono g.fex g.rex)
  | bor f n q hs =>
    refine .bor ?_ (fun z => ?_) (g.keep _ _ q n) (hs.mono g.fex g.rex)
    · rename_i p us vs
      cases z : F' p with
      | none => rfl
      | some x =>
        rcases g.fnew p x z with y | y
        · rw [f] at y; cases y
        · rw [q] at y; cases y
    · rcases g.rnew _ z with z | z
      · exact n z
      · rw [q] at z; cases z
theorem CVb.items {F H : Hp} {rho : List Addr} {S : Sto} {u : U} {v : V} {us : List U} (st : St K w F H rho S) (h : CVb K w F H rho u v) (e : U.items S u = some us) : ∃ a vs, v = .ref a ∧ SqL K H a vs ∧ CVs K w F rho us vs := by
  cases h with
  | of h =>
    cases h with
    | lst q hs =>
      simp only [U.items, Option.some.injEq] at e
      subst e
      exact ⟨_, _, rfl, SqL.of (st.sub _ _ q), hs⟩
    | fz q hs =>
      simp only [U.items, Option.some.injEq] at e
      subst e
      exact ⟨_, _, rfl, same_l st.sub q, hs⟩
    | ref q =>
      rename_i n a
      obtain ⟨o, ho, e1, f, e2, ok⟩ := st.at q
      cases o with
      | lst ws =>
        simp only [U.items, e1, Option.some.injEq] at e
        subst e
        obtain ⟨vs, rfl, hs⟩ := ok
        exact ⟨_, _, rfl, SqL.of e2, hs⟩
    | _ => simp [U.items] at e
  | bor f n q hs =>
    simp only [U.items, Option.some.injEq] at e
    subst e
    exact ⟨_, _, rfl, SqL.of q, hs⟩
theorem CVb.lst {F H : Hp} {rho : List Addr} {S : Sto} {v : V} {us : List U} (st : St K w F H rho S) (h : CVb K w F H rho (.lst us) v) : ∃ a vs, v = .ref a ∧ H a = some (.lst vs) ∧ CVs K w F rho us vs := by
  cases h with
  | of h =>
    cases h with
    | lst q hs => exact ⟨_, _, rfl, st.sub _ _ q, hs⟩
  | bor f n q hs => exact ⟨_, _, rfl, q, hs⟩
theorem CVb.tup {F H : Hp} {rho : List Addr} {S : Sto} {v : V} {us : List U} (st : St K w F H rho S) (h : CVb K w F H rho (.tup us) v) : ∃ a vs, v = .ref a ∧ SqT K H a vs ∧ CVs K w F rho us vs := by
  cases h with
  | of h =>
    cases h with
    | tup q hs => exact ⟨_, _, rfl, same_t st.sub q, hs⟩
theorem CVb.int {F H : Hp} {rho : List Addr} {v : V} {i : Int} (h : CVb K w F H rho (.int i) v) : v = .int i := by
  cases h with
  | of h => cases h; rfl

theorem CVb.str {F H : Hp} {rho : List Addr} {v : V} {i : Str} (h : CVb K w F H rho (.str i) v) : v = .str i := by
  cases h with
  | of h => cases h; rfl
/-- what is wanted of a primitive's end -/
def PP (K : PySem.W.Frag) (w : World) (F H : Hp) (rho : List Addr) (p : PR) (Q : VK) : Prop := match p with
  | .val u => ∀ v F' H', Grow F H rho F' H' rho → Same H H' → Same F' H' → CV K w F' rho u v → Q v H'
  | .newL us => ∀ p vs, H p = none → CVs K w F rho us vs → Q (.ref p) (upd H p (.lst vs))
theorem PP.here {F H : Hp} {rho : List Addr} {S : Sto} {u : U} {v : V} {Q : VK} (st : St K w F H rho S) (h : PP K w F H rho (.val u) Q) (c : CV K w F rho u v) : Q v H := h v F H (Grow.refl _ _ _) (Same.refl _) st.sub c
theorem PP.newT {F H : Hp} {rho : List Addr} {S : Sto} {us : List U} {vs : List V} {Q : VK} (st : St K w F H rho S) (h : PP K w F H rho (.val (.tup us)) Q) (c : CVs K w F rho us vs) {p : Addr} (n : H p = none) : Q (.ref p) (upd H p (.tup vs)) := by
  have nf := st.sub.free n
  refine h _ (upd F p (.tup vs)) _ (Grow.new st.sub n) (same_upd n (Same.refl _)) (fun a o e => ?_) (.tup (.inl (.inl upd_same)) (c.mono (same_upd nf (Same.refl _)) (Pre.refl _)))
  by_cases z : a = p
  · subst z; rw [upd_same] at e ⊢; exact e
  · rw [upd_ne z] at e ⊢; exact st.sub _ _ e
/-- a new list is frozen at once -/
theorem PP.get {F H : Hp} {rho : List Addr} {S : Sto} {p : PR} {Q : VK} (st : St K w F H rho S) (h : PP K w F H rho (.val p.get) Q) : PP K w F H rho p Q := by
  cases p with
  | val u => exact h
  | newL us =>
    intro p vs n c
    have nf := st.sub.free n
    refine h _ (upd F p (.lst vs)) _ (Grow.new st.sub n) (same_upd n (Same.refl _)) (fun a o e => ?_) (.lst upd_same (c.mono (same_upd nf (Same.refl _)) (Pre.refl _)))
    by_cases z : a = p
    · subst z; rw [upd_same] at e ⊢; exact e
    · rw [upd_ne z] at e ⊢; exact st.sub _ _ e
end
end Far

set_option Elab.async false
set_option linter.all false
set_option maxRecDepth 100000
set_option maxHeartbeats 4000000
/-! The primitive operations keep what the evaluator says of them. -/
namespace Far
open PySem PySem.Spec PyProof.Rows L2

theorem big_line {n : Nat} (h : n ≤ big) : n ≤ sizeLine := Nat.le_trans h (by decide)

def bopA : Bop → Operator
  | .add => .Add
  | .sub => .Sub
  | .mul => .Mult
  | .fdiv => .FloorDiv
  | .mod => .Mod
  | .pow => .Pow
def rBop (K : PySem.W.Frag) (w : World) (o : Bop) : R2 := fun x y H Q => ∃ F rho S a b p, St K w F H rho S ∧ CVb K w F H rho a x ∧ CVb K w F H rho b y ∧ bop o S a b = some p ∧ PP K w F H rho p Q

section
variable {X : Cx}
theorem natAbs64 {i : Int} (h : i.natAbs < 18446744073709551616) : -(2 ^ 64) < i ∧ i < 2 ^ 64 := by
  have e : (2 : Int) ^ 64 = 18446744073709551616 := by decide
  rw [e]
  omega
theorem CVs.rep {K : PySem.W.Frag} {w : World} {F : Hp} {rho : List Addr} {us : List U} {vs : List V} (h : CVs K w F rho us vs) : ∀ n : Nat, CVs K w F rho (List.replicate n us).flatten (List.replicate n vs).flatten
  | 0 => .nil
  | n + 1 => by
    rw [List.replicate_succ, List.replicate_succ, List.flatten_cons, List.flatten_cons]
    exact h.append (CVs.rep h n)
theorem opr_bop (o : Bop) : OpR X (binaryOp (bopA o)) (rBop X.K X.w o) := by
  intro pins s σ H x y v u Q I rx ry h
  obtain ⟨F, rho, S, a, b, p, st, ca, cb, e, q⟩ := h
  unfold bop at e
  split at e
  · obtain rfl := ca.int; obtain rfl := cb.int
    cases e
    exact op_add pins s σ H _ _ v u Q I rx ry ⟨_, _, rfl, rfl, q.here st (.int _)⟩
  · obtain rfl := ca.int; obtain rfl := cb.int
    cases e
    exact op_sub pins s σ H _ _ v u Q I rx ry ⟨_, _, rfl, rfl, q.here st (.int _)⟩
  · obtain rfl := ca.int; obtain rfl := cb.int
    split at e
    · rename_i h
      cases e
      exact op_mul pins s σ H _ _ v u Q I rx ry ⟨_, _, rfl, rfl, h.imp natAbs64 natAbs64, q.here st (.int _)⟩
    · cases e
  · obtain rfl := ca.int; obtain rfl := cb.int
    split at e
    · rename_i i j h
      cases e
      refine op_fdivW pins s σ H _ _ v u Q I rx ry ⟨_, _, rfl, rfl, ⟨h.1, ?_⟩, q.here st (.int _)⟩
      have h2 : j.natAbs < 2 ^ 64 := by
        have e : (2 : Nat) ^ 64 = 18446744073709551616 := by decide
        rw [e]; omega
      have h3 := PySem.Flt.log2_lt_of (by decide : 0 < 64) h2
      omega
    · cases e
  · obtain rfl := ca.int; obtain rfl := cb.int
    split at e
    · rename_i h
      cases e
      exact op_mod pins s σ H _ _ v u Q I rx ry ⟨_, _, rfl, rfl, h, q.here st (.int _)⟩
    · cases e
  · obtain rfl := ca.int; obtain rfl := cb.int
    split at e
    · rename_i h
      cases e
      refine op_pow pins s σ H _ _ v u Q I rx ry ⟨_, _, rfl, rfl, ⟨h.1, by omega, ?_⟩, q.here st (.int _)⟩
      have e : (2 : Nat) ^ 64 = 18446744073709551616 := by decide
      rw [e]; exact h.2.2
    · cases e
  · obtain ⟨a1, vs1, rfl, h1, c1⟩ := ca.lst st
    obtain ⟨a2, vs2, rfl, h2, c2⟩ := cb.lst st
    split at e
    · rename_i h
      cases e
      refine op_cat pins s σ H _ _ v u Q I rx ry ⟨_, _, _, _, rfl, rfl, h1, h2, ?_, fun p n => q p _ n (c1.append c2)⟩
      rw [← c1.length, ← c2.length]
      exact big_line h
    · cases e
  · obtain ⟨a1, vs1, rfl, h1, c1⟩ := ca.tup st
    obtain ⟨a2, vs2, rfl, h2, c2⟩ := cb.tup st
    split at e
    · rename_i us ws h
      cases e
      refine op_catA pins s σ H _ _ v u Q I rx ry ⟨_, _, _, _, rfl, rfl, h1, h2, ?_, fun z => ?_, fun _ z => ?_, fun _ _ p n => q.newT st (c1.append c2) n⟩
      · rw [← c1.length, ← c2.length]
        exact big_line h
      · subst z
        cases c1
        cases cb with
        | of cb => exact q.here st cb
      · subst z
        cases c2
        cases ca with
        | of ca =>
          rw [List.append_nil] at q
          exact q.here st ca
    · cases e
  · obtain rfl := ca.str; obtain rfl := cb.str
    split at e
    · rename_i h
      cases e
      exact op_add_str pins s σ H _ _ v u Q I rx ry ⟨_, _, rfl, rfl, big_line h, q.here st (.str _)⟩
    · cases e
  · obtain rfl := ca.str; obtain rfl := cb.int
    split at e
    · rename_i a k h
      cases e
      obtain ⟨t, rfl⟩ := (show ∃ t, v = Value.str a t from rx)
      obtain ⟨t', rfl⟩ := (show ∃ t', u = Value.int k t' from ry)
      obtain ⟨k1, k2, k3, k4⟩ := h
      have hk : a.length * k.toNat ≤ 90000 := Nat.le_trans (Nat.mul_le_mul k4 (show k.toNat ≤ 1000 by omega)) (by decide)
      refine SB.mul ⟨?_, fun _ _ hh => ?_, fun _ _ => ?_⟩ fun t'' kk => ⟨.str (Txt.mul a k), H, I.tok _, ⟨_, rfl⟩, q.here st (.str _)⟩
      · have h1 : ¬ k < -(2 ^ 63 : Int) := by omega
        have h2 : ¬ k ≥ 2 ^ 63 := by omega
        rw [decide_eq_false h1, decide_eq_false h2]
        rfl
      · have e : (2 ^ 63 - 1 : Int) = 9223372036854775807 := by decide
        have h3 : (a.length : Int) * k ≤ 9223372036854775807 := by
          have h4 : ((a.length * k.toNat : Nat) : Int) = (a.length : Int) * k := by
            rw [Int.natCast_mul, Int.toNat_of_nonneg (by omega)]
          omega
        have := Int.le_ediv_of_mul_le (by omega : 0 < k) h3
        rw [e] at hh
        omega
      · show decide (a.length * k.toNat > sizeLine) = false
        rw [decide_eq_false_iff_not, sizeLine_eq]
        omega
    · cases e
  · obtain ⟨a1, vs1, rfl, h1, c1⟩ := ca.lst st
    obtain rfl := cb.int
    split at e
    · rename_i us k h
      cases e
      obtain ⟨k1, k2, k3⟩ := h
      refine op_rep pins s σ H _ _ v u Q I rx ry ⟨_, _, _, rfl, rfl, h1, by omega, by omega, ?_, fun p n => q p _ n (CVs.rep c1 _)⟩
      rw [← c1.length]
      have hk : us.length * k.toNat ≤ 90000 := Nat.le_trans (Nat.mul_le_mul k3 (show k.toNat ≤ 1000 by omega)) (by decide)
      rw [sizeLine_eq]
      omega
    · cases e
  · obtain ⟨a1, vs1, rfl, h1, c1⟩ := ca.tup st
    obtain rfl := cb.int
    split at e
    · rename_i h
      cases e
      refine op_repT pins s σ H _ _ v u Q I rx ry ⟨_, _, _, rfl, rfl, h1, fun z => ?_, h.2.1, h.2.2.1, by rw [← c1.length]; exact h.2.2.2, fun p n => q.newT st (c1.rep _) n⟩
      subst z
      cases c1
      cases h.1
    · cases e
  · cases e

/-! ### comparisons -/
mutual
theorem CV.dp {K : PySem.W.Frag} {w : World} {F H : Hp} {rho : List Addr} (s : Same F H) : ∀ {u : U} {v : V} {d : PyData}, CV K w F rho u v → U.data u = some d → Dp K H v d
  | _, _, _, .non, e => by simp only [U.data, Option.some.injEq] at e; subst e; exact .non
  | _, _, _, .bl b, e => by simp only [U.data, Option.some.injEq] at e; subst e; exact .bl b
  | _, _, _, .int i, e => by simp only [U.data, Option.some.injEq] at e; subst e; exact .int i
  | _, _, _, .str x, e => by simp only [U.data, Option.some.injEq] at e; subst e; exact .str x
  | _, _, _, .tup h hs, e => by
    simp only [U.data, Option.map_eq_some_iff] at e
    obtain ⟨ds, e1, rfl⟩ := e
    exact .tup (same_t s h) (CVs.dp s hs e1)
  | _, _, _, .lst h hs, e => by
    simp only [U.data, Option.map_eq_some_iff] at e
    obtain ⟨ds, e1, rfl⟩ := e
    exact .lst (SqL.of (s _ _ h)) (CVs.dp s hs e1)
  | _, _, _, .fz h hs, e => by simp [U.data] at e
  | _, _, _, .dct h l hs, e => by simp [U.data] at e
  | _, _, _, .kdc h hs, e => by simp [U.data] at e
  | _, _, _, .ref h, e => by simp [U.data] at e
theorem CVs.dp {K : PySem.W.Frag} {w : World} {F H : Hp} {rho : List Addr} (s : Same F H) : ∀ {us : List U} {vs : List V} {ds : List PyData}, CVs K w F rho us vs → U.datas us = some ds → DpAll K H vs ds
  | _, _, _, .nil, e => by simp only [U.datas, Option.some.injEq] at e; subst e; exact .nil
  | _, _, _, .cons h hs, e => by
    simp only [U.datas, Option.bind_eq_some_iff, Option.map_eq_some_iff] at e
    obtain ⟨d, e1, ds, e2, rfl⟩ := e
    exact .cons (CV.dp s h e1) (CVs.dp s hs e2)
end
theorem CVb.dp {K : PySem.W.Frag} {w : World} {F H : Hp} {rho : List Addr} (s : Same F H) {u : U} {v : V} {d : PyData} (h : CVb K w F H rho u v) (e : U.data u = some d) : Dp K H v d := by
  cases h with
  | of h => exact h.dp s e
  | bor f n q hs =>
    simp only [U.data, Option.map_eq_some_iff] at e
    obtain ⟨ds, e1, rfl⟩ := e
    exact .lst (SqL.of q) (CVs.dp s hs e1)
theorem flatV_of {u : U} {x : V} {K : PySem.W.Frag} {w : World} {F H : Hp} {rho : List Addr} {v : V} (h : CVb K w F H rho u v) (e : flatV? u = some x) : v = x ∧ flatV x = true := by
  cases h with
  | of h => cases h <;> simp [flatV?] at e <;> subst e <;> exact ⟨rfl, rfl⟩
  | bor => simp [flatV?] at e
theorem flats_of {K : PySem.W.Frag} {w : World} {F : Hp} {rho : List Addr} : ∀ {us : List U} {vs xs : List V}, CVs K w F rho us vs → us.mapM flatV? = some xs → vs = xs ∧ xs.all flatV = true
  | _, _, xs, .nil, e => by
    simp at e
    subst e
    exact ⟨rfl, rfl⟩
  | _, _, xs, .cons h hs, e => by
    rw [List.mapM_cons] at e
    simp only [Option.bind_eq_bind, Option.bind_eq_some_iff, Option.pure_def, Option.some.injEq] at e
    obtain ⟨y, e1, ys, e2, rfl⟩ := e
    obtain ⟨rfl, f1⟩ := flatV_of (H := F) (.of h) e1
    obtain ⟨rfl, f2⟩ := flats_of hs e2
    exact ⟨rfl, by rw [List.all_cons, f1, f2]; rfl⟩
def copA : Cop → CmpOp
  | .eq => .Eq
  | .ne => .NotEq
  | .lt => .Lt
  | .le => .LtE
  | .gt => .Gt
  | .ge => .GtE
  | .isin => .In
  | .notin => .NotIn
  | .isN => .Is
  | .notN => .IsNot
def rCop (K : PySem.W.Frag) (w : World) (o : Cop) : R2 := fun x y H Q => ∃ F rho S a b k, St K w F H rho S ∧ CVb K w F H rho a x ∧ CVb K w F H rho b y ∧ cop o S a b = some k ∧ Q (.bl k) H
theorem key_of {K : PySem.W.Frag} {w : World} {F H : Hp} {rho : List Addr} {u : U} {v : V} {k : Key} (h : CVb K w F H rho u v) (e : U.key u = some k) : v = kV k := by
  cases h with
  | of h => cases h <;> simp [U.key] at e <;> subst e <;> rfl
  | bor => simp [U.key] at e
theorem dct_val {K : PySem.W.Frag} {w : World} {F : Hp} {rho : List Addr} {k : Key} : ∀ {ks : List Key} {us : List U} {vs : List V}, CVs K w F rho us vs → ks.length = vs.length →
    (∃ u v, dctGet ks us k = some u ∧ valV (ks.zip vs) k = some v ∧ CV K w F rho u v) ∨ (dctGet ks us k = none ∧ valV (ks.zip vs) k = none)
  | [], us, vs, h, l => by
    right
    cases us <;> exact ⟨rfl, rfl⟩
  | q :: ks, _, _, .nil, l => by simp at l
  | q :: ks, _, _, .cons (u := u) (v := v) (us := us) (vs := vs) h hs, l => by
    by_cases z : q = k
    · left
      subst z
      exact ⟨u, v, by simp [dctGet], by simp [valV], h⟩
    · have ih := dct_val (k := k) (ks := ks) hs (by simpa using l)
      have e1 : dctGet (q :: ks) (u :: us) k = dctGet ks us k := by simp [dctGet, z]
      have e2 : valV ((q :: ks).zip (v :: vs)) k = valV (ks.zip vs) k := by simp [valV, z]
      rw [e1, e2]
      exact ih
theorem kent_val {K : PySem.W.Frag} {w : World} {F : Hp} {rho : List Addr} {x : Str} : ∀ {es : List DictEntry} {ks : List Key} {us : List U} {vs : List V}, KEnt es ks vs → CVs K w F rho us vs →
    (∃ u v z, dctGet ks us (.inr x) = some u ∧ (es.find? fun e => e.key.isStr x).map (·.val) = some z ∧ RelV v z ∧ CV K w F rho u v) ∨ (dctGet ks us (.inr x) = none ∧ (es.find? fun e => e.key.isStr x) = none)
  | _, _, _, _, .nil, h => by
    right
    cases h
    exact ⟨rfl, rfl⟩
  | _, _, _, _, .cons (e := e) (x := y) (t := t) (v := v) (es := es) (ks := ks) (vs := vs) ek rv he, .cons (u := u) (us := us) h hs => by
    by_cases z : y = x
    · left
      subst z
      refine ⟨u, v, e.val, by simp [dctGet], ?_, rv, h⟩
      have : e.key.isStr y = true := by rw [ek]; simp [Value.isStr]
      simp [List.find?, this]
    · have ih := kent_val (x := x) he hs
      have e1 : dctGet (.inr y :: ks) (u :: us) (.inr x) = dctGet ks us (.inr x) := by simp [dctGet, z]
      have e2 : e.key.isStr x = false := by rw [ek]; simp [Value.isStr, z]
      rw [e1]
      simp only [List.find?, e2]
      exact ih
theorem kent_ref : ∀ {es : List DictEntry} {ks : List Key} {vs : List V}, KEnt es ks vs → es.any (·.refKey) = false
  | _, _, _, .nil => rfl
  | _, _, _, .cons ek rv he => by
    rw [List.any_cons, kent_ref he]
    simp [DictEntry.refKey, ek]
theorem kdc_in {K : PySem.W.Frag} {w : World} {F : Hp} {rho : List Addr} {a : Addr} {ks : List Key} {us : List U} {vs : List V} {x : Str} (h : KDc K w a ks vs) (c : CVs K w F rho us vs) :
    ∃ es n r, L2.KDict K w a es n ∧ PySem.W.nsIn K a x = some r ∧ r.isSome = (dctGet ks us (.inr x)).isSome ∧ ∀ u, dctGet ks us (.inr x) = some u → ∃ v z, r = some z ∧ RelV v z ∧ CV K w F rho u v := by
  obtain ⟨es, n, D, ke⟩ := h
  have hr := kent_ref ke
  rcases kent_val (x := x) ke c with ⟨u, v, z, e1, e2, rv, cv⟩ | ⟨e1, e2⟩
  · refine ⟨es, n, some z, D, ?_, by rw [e1]; rfl, fun u' e => ?_⟩
    · unfold PySem.W.nsIn
      rw [D.at_]
      simp only [Option.map_eq_some_iff] at e2
      obtain ⟨en, e3, e4⟩ := e2
      dsimp only
      rw [e3]
      simp [e4]
    · rw [e1] at e
      cases e
      exact ⟨v, z, rfl, rv, cv⟩
  · refine ⟨es, n, none, D, ?_, by rw [e1]; rfl, fun u' e => by rw [e1] at e; cases e⟩
    unfold PySem.W.nsIn
    rw [D.at_]
    dsimp only
    rw [e2]
    simp [hr]
def neg (b k : Bool) : Bool := if b = true then !k else k
theorem in_dct (hu : X.A.units + 1 < cLine) {pins : List (Addr × Obj)} {s : Shared} {σ : L2.St} {H : Hp} {x y : V} {v u : Value} {Q : VK} (I : Inv X pins σ H s) (rx : RelV x v) (ry : RelV y u)
    {F : Hp} {rho : List Addr} {S : Sto} {a : U} {ks : List Key} {us : List U} {k : Key} (st : St X.K X.w F H rho S) (ca : CVb X.K X.w F H rho a x) (cb : CVb X.K X.w F H rho (.dct ks us) y) (ek : U.key a = some k) :
    (Q (.bl (dctGet ks us k).isSome) H → wpAny (model X.prog X.w) X.A (compareOp .In v u) (EP X pins σ Q) X.xe s) ∧ (Q (.bl (!(dctGet ks us k).isSome)) H → wpAny (model X.prog X.w) X.A (compareOp .NotIn v u) (EP X pins σ Q) X.xe s) := by
  cases cb with
  | of cb =>
    cases cb with
    | dct h l hs =>
      rename_i p vs
      cases ry
      obtain rfl := key_of ca ek
      refine ⟨fun q => d_in hu I (DGet.k (k := k) (st.sub _ _ h)) rx fun s' J => ⟨.bl _, H, J, rfl, ?_⟩, fun q => d_notIn hu I (DGet.k (k := k) (st.sub _ _ h)) rx fun s' J => ⟨.bl _, H, J, rfl, ?_⟩⟩
      · rcases dct_val (k := k) hs l with ⟨u1, v1, e1, e2, _⟩ | ⟨e1, e2⟩
        · rw [e2]; rw [e1] at q; exact q
        · rw [e2]; rw [e1] at q; exact q
      · rcases dct_val (k := k) hs l with ⟨u1, v1, e1, e2, _⟩ | ⟨e1, e2⟩
        · rw [e2]; rw [e1] at q; exact q
        · rw [e2]; rw [e1] at q; exact q
theorem in_kdt {pins : List (Addr × Obj)} {s : Shared} {σ : L2.St} {H : Hp} {x y : V} {v u : Value} {Q : VK} (I : Inv X pins σ H s) (rx : RelV x v) (ry : RelV y u)
    {F : Hp} {rho : List Addr} {S : Sto} {z : Str} {ks : List Key} {us : List U} (st : St X.K X.w F H rho S) (ca : CVb X.K X.w F H rho (.str z) x) (cb : CVb X.K X.w F H rho (.kdt ks us) y) :
    (Q (.bl (dctGet ks us (.inr z)).isSome) H → wpAny (model X.prog X.w) X.A (compareOp .In v u) (EP X pins σ Q) X.xe s) ∧ (Q (.bl (!(dctGet ks us (.inr z)).isSome)) H → wpAny (model X.prog X.w) X.A (compareOp .NotIn v u) (EP X pins σ Q) X.xe s) := by
  cases cb with
  | of cb =>
    cases cb with
    | kdc h hs =>
      obtain ⟨es, n, r, D, e1, e2, _⟩ := kdc_in (x := z) h hs
      cases ca with
      | of ca =>
        cases ca
        exact ⟨fun q => op_in_kd D pins s σ H _ _ v u Q I rx ry ⟨z, r, rfl, rfl, e1, by rw [e2]; exact q⟩, fun q => op_notIn_kd D pins s σ H _ _ v u Q I rx ry ⟨z, r, rfl, rfl, e1, by rw [e2]; exact q⟩⟩
theorem in_flat {pins : List (Addr × Obj)} {s : Shared} {σ : L2.St} {H : Hp} {x y : V} {v u : Value} {Q : VK} (I : Inv X pins σ H s) (rx : RelV x v) (ry : RelV y u)
    {F : Hp} {rho : List Addr} {a : U} {us : List U} {p : Addr} {vs : List V} {k : Bool} (ca : CVb X.K X.w F H rho a x) (ey : y = .ref p) (hq : SqL X.K H p vs ∨ SqT X.K H p vs) (cs : CVs X.K X.w F rho us vs) (e : inFlat a us = some k) :
    (Q (.bl k) H → wpAny (model X.prog X.w) X.A (compareOp .In v u) (EP X pins σ Q) X.xe s) ∧ (Q (.bl (!k)) H → wpAny (model X.prog X.w) X.A (compareOp .NotIn v u) (EP X pins σ Q) X.xe s) := by
  subst ey
  unfold inFlat at e
  simp only [Option.bind_eq_some_iff, Option.map_eq_some_iff] at e
  obtain ⟨x', e1, xs, e2, rfl⟩ := e
  obtain ⟨rfl, f1⟩ := flatV_of ca e1
  obtain ⟨rfl, f2⟩ := flats_of cs e2
  exact ⟨fun q => op_in_seq pins s σ H _ _ v u Q I rx ry ⟨p, _, rfl, hq, f1, f2, by simpa using q⟩, fun q => op_notIn_seq pins s σ H _ _ v u Q I rx ry ⟨p, _, rfl, hq, f1, f2, by simpa using q⟩⟩
theorem is_non {K : PySem.W.Frag} {w : World} {F H : Hp} {rho : List Addr} {u : U} {v : V} (h : CVb K w F H rho u v) : decide (v = .non) = (match u with | .non => true | _ => false) := by
  cases h with
  | of h => cases h <;> simp
  | bor => simp
theorem cvb_non {K : PySem.W.Frag} {w : World} {F H : Hp} {rho : List Addr} {v : V} (h : CVb K w F H rho .non v) : v = .non := by
  cases h with
  | of h => cases h; rfl
theorem sign_of {c : Str} {n : Nat} (h : signOf c = some n) : c = ⟨#[n]⟩ := by
  obtain ⟨⟨l⟩⟩ := c
  unfold signOf at h
  split at h
  · rename_i m e
    cases h
    simp at e
    subst e
    rfl
  · cases h
theorem in_list (hu : X.A.units + 65 < cLine) {pins : List (Addr × Obj)} {s : Shared} {σ : L2.St} {H : Hp} {x y : V} {v u : Value} {Q : VK} (I : Inv X pins σ H s) (rx : RelV x v) (ry : RelV y u)
    {F : Hp} {rho : List Addr} {S : Sto} {a : U} {us : List U} {k : Bool} (st : St X.K X.w F H rho S) (ca : CVb X.K X.w F H rho a x) (cb : CVb X.K X.w F H rho (.lst us) y) (e : inL a us = some k) :
    (Q (.bl k) H → wpAny (model X.prog X.w) X.A (compareOp .In v u) (EP X pins σ Q) X.xe s) ∧ (Q (.bl (!k)) H → wpAny (model X.prog X.w) X.A (compareOp .NotIn v u) (EP X pins σ Q) X.xe s) := by
  unfold inL at e
  split at e
  · rename_i k' e'
    cases e
    obtain ⟨p, vs, ey, hq, cs⟩ := cb.items st rfl
    exact in_flat I rx ry ca ey (.inl hq) cs e'
  · unfold inDat at e
    simp only [Option.bind_eq_some_iff] at e
    obtain ⟨d, e1, ds, e2, e3⟩ := e
    split at e3
    · rename_i hs
      cases e3
      rw [Bool.and_eq_true] at hs
      have hd : U.data (.lst us) = some (.list ds) := by simp [U.data, e2]
      exact ⟨fun q => op_inD hu pins s σ H _ _ v u Q I rx ry ⟨d, ds, ca.dp st.sub e1, cb.dp st.sub hd, hs.1, hs.2, q⟩, fun q => op_notInD hu pins s σ H _ _ v u Q I rx ry ⟨d, ds, ca.dp st.sub e1, cb.dp st.sub hd, hs.1, hs.2, q⟩⟩
    · cases e3
theorem opr_cop (hu5 : X.A.units + 65 < cLine) (o : Cop) : OpR X (compareOp (copA o)) (rCop X.K X.w o) := by
  intro pins s σ H x y v u Q I rx ry h
  obtain ⟨F, rho, S, a, b, k, st, ca, cb, e, q⟩ := h
  have hu : X.A.units + 64 < cLine := by omega
  have hu1 : X.A.units + 1 < cLine := by omega
  cases o with
  | eq =>
    simp only [cop, pyEq, Option.bind_eq_some_iff] at e
    obtain ⟨d, e1, d', e2, e3⟩ := e
    split at e3
    · rename_i hs
      cases e3
      rw [Bool.and_eq_true] at hs
      exact op_eqD hu pins s σ H _ _ v u Q I rx ry ⟨d, d', ca.dp st.sub e1, cb.dp st.sub e2, hs.1, hs.2, q⟩
    · cases e3
  | ne =>
    simp only [cop, pyEq, Option.bind_eq_some_iff, Option.map_eq_some_iff] at e
    obtain ⟨k', ⟨d, e1, d', e2, e3⟩, rfl⟩ := e
    split at e3
    · rename_i hs
      cases e3
      rw [Bool.and_eq_true] at hs
      exact op_neD hu pins s σ H _ _ v u Q I rx ry ⟨d, d', ca.dp st.sub e1, cb.dp st.sub e2, hs.1, hs.2, q⟩
    · cases e3
  | lt =>
    simp only [cop] at e
    split at e
    · cases e
      obtain rfl := ca.int; obtain rfl := cb.int
      exact op_lt pins s σ H _ _ v u Q I rx ry ⟨_, _, rfl, rfl, q⟩
    · cases e
  | le =>
    simp only [cop] at e
    split at e
    · cases e
      obtain rfl := ca.int; obtain rfl := cb.int
      exact op_le pins s σ H _ _ v u Q I rx ry ⟨_, _, rfl, rfl, q⟩
    · cases e
  | gt =>
    simp only [cop] at e
    split at e
    · cases e
      obtain rfl := ca.int; obtain rfl := cb.int
      exact op_gt pins s σ H _ _ v u Q I rx ry ⟨_, _, rfl, rfl, q⟩
    · cases e
  | ge =>
    simp only [cop] at e
    split at e
    · cases e
      obtain rfl := ca.int; obtain rfl := cb.int
      exact op_ge pins s σ H _ _ v u Q I rx ry ⟨_, _, rfl, rfl, q⟩
    · cases e
  | isN =>
    have hn := is_non ca
    simp only [cop] at e
    split at e
    · cases e
    · cases e
      refine op_isN pins s σ H _ _ v u Q I rx ry ⟨cvb_non cb, ?_⟩
      rw [hn]; exact q
    · cases e
      refine op_isN pins s σ H _ _ v u Q I rx ry ⟨cvb_non cb, ?_⟩
      rw [hn]
      rename_i h1 h2
      cases a <;> first | exact absurd rfl (h2) | exact q
    · cases e
  | notN =>
    have hn := is_non ca
    simp only [cop] at e
    split at e
    · cases e
    · cases e
      refine op_notN pins s σ H _ _ v u Q I rx ry ⟨cvb_non cb, ?_⟩
      rw [hn]; exact q
    · cases e
      refine op_notN pins s σ H _ _ v u Q I rx ry ⟨cvb_non cb, ?_⟩
      rw [hn]
      rename_i h1 h2
      cases a <;> first | exact absurd rfl (h2) | exact q
    · cases e
  | isin =>
    simp only [cop] at e
    split at e
    · obtain ⟨p, vs, ey, hq, cs⟩ := cb.tup st
      exact (in_flat I rx ry ca ey (.inr hq) cs e).1 q
    · exact (in_list hu5 I rx ry st ca cb e).1 q
    · split at e
      · simp only [Option.map_eq_some_iff] at e
        obtain ⟨n, e1, rfl⟩ := e
        obtain rfl := ca.str; obtain rfl := cb.str
        have := sign_of e1
        subst this
        exact op_in_sign pins s σ H _ _ v u Q I rx ry ⟨n, _, rfl, rfl, q⟩
      · cases e
    · simp only [Option.map_eq_some_iff] at e
      obtain ⟨k1, e1, rfl⟩ := e
      exact (in_dct hu1 I rx ry st ca cb e1).1 q
    · split at e
      · cases e
        exact (in_kdt I rx ry st ca cb).1 q
      · cases e
    · cases e
  | notin =>
    simp only [cop] at e
    split at e
    · simp only [Option.map_eq_some_iff] at e
      obtain ⟨k1, e1, rfl⟩ := e
      obtain ⟨p, vs, ey, hq, cs⟩ := cb.tup st
      exact (in_flat I rx ry ca ey (.inr hq) cs e1).2 q
    · simp only [Option.map_eq_some_iff] at e
      obtain ⟨k1, e1, rfl⟩ := e
      exact (in_list hu5 I rx ry st ca cb e1).2 q
    · split at e
      · simp only [Option.map_eq_some_iff] at e
        obtain ⟨n, e1, rfl⟩ := e
        obtain rfl := ca.str; obtain rfl := cb.str
        have := sign_of e1
        subst this
        exact op_notIn_sign pins s σ H _ _ v u Q I rx ry ⟨n, _, rfl, rfl, q⟩
      · cases e
    · simp only [Option.map_eq_some_iff] at e
      obtain ⟨k1, e1, rfl⟩ := e
      exact (in_dct hu1 I rx ry st ca cb e1).2 q
    · split at e
      · cases e
        exact (in_kdt I rx ry st ca cb).2 q
      · cases e
    · cases e
end
end Far

set_option Elab.async false
set_option linter.all false
set_option maxRecDepth 100000
set_option maxHeartbeats 4000000
/-! Further primitives: functions, items, slices, truth, isinstance. -/
namespace Far
open PySem PySem.Spec PyProof.Rows L2
section
variable {X : Cx}
def fnV : Fn → Value
  | .len => .builtin "len"
  | .all => .builtin "all"
  | .any => .builtin "any"
  | .tuple => .type "tuple"
  | .list => .type "list"
  | .abs => .builtin "abs"
  | .str => .type "str"
  | .int => .type "int"
  | .min => .builtin "min"
def rFn (K : PySem.W.Frag) (w : World) (f : Fn) : List V → Hp → VK → Prop := fun xs H Q => ∃ F rho S u x p, xs = [x] ∧ St K w F H rho S ∧ CVb K w F H rho u x ∧ fnc f S [u] = some p ∧ PP K w F H rho p Q
theorem bls_of {K : PySem.W.Frag} {w : World} {F : Hp} {rho : List Addr} : ∀ {us : List U} {vs : List V} {bs : List Bool}, CVs K w F rho us vs → bls us = some bs → vs = bs.map V.bl
  | _, _, bs, .nil, e => by
    simp only [bls, Option.some.injEq] at e
    subst e
    rfl
  | _, _, bs, .cons h hs, e => by
    cases h with
    | bl b =>
      simp only [bls, Option.map_eq_some_iff] at e
      obtain ⟨cs, e1, rfl⟩ := e
      rw [bls_of hs e1]
      rfl
    | _ => simp [bls] at e
theorem ints_of {K : PySem.W.Frag} {w : World} {F : Hp} {rho : List Addr} : ∀ {us : List U} {vs : List V} {ns : List Int}, CVs K w F rho us vs → intsOf us = some ns → vs = ns.map V.int
  | _, _, ns, .nil, e => by
    simp only [intsOf, Option.some.injEq] at e
    subst e
    rfl
  | _, _, ns, .cons h hs, e => by
    cases h with
    | int b =>
      simp only [intsOf, Option.map_eq_some_iff] at e
      obtain ⟨cs, e1, rfl⟩ := e
      rw [ints_of hs e1]
      rfl
    | _ => simp [intsOf] at e
theorem least_ok : ∀ {ns : List Int} {m : Int}, leastOf ns = some m → m ∈ ns ∧ (∀ y ∈ ns, m ≤ y) ∧ 0 < ns.length
  | [], m, e => by cases e
  | [i], m, e => by
    cases e
    exact ⟨by simp, by simp, by simp⟩
  | i :: j :: is, m, e => by
    simp only [leastOf, Option.map_eq_some_iff] at e
    obtain ⟨m1, e1, rfl⟩ := e
    obtain ⟨h1, h2, _⟩ := least_ok (ns := j :: is) e1
    split
    · rename_i c
      refine ⟨by simp, fun y hy => ?_, by simp⟩
      rcases List.mem_cons.mp hy with rfl | hy
      · exact Int.le_refl _
      · exact Int.le_trans c (h2 y hy)
    · rename_i c
      refine ⟨List.mem_cons_of_mem _ h1, fun y hy => ?_, by simp⟩
      rcases List.mem_cons.mp hy with rfl | hy
      · omega
      · exact h2 y hy
theorem signs_cv {K : PySem.W.Frag} {w : World} {F : Hp} {rho : List Addr} (z : Str) : CVs K w F rho (signsU z) (z.cps.toList.map fun c => V.str ⟨#[c]⟩) := by
  unfold signsU
  induction z.cps.toList with
  | nil => exact .nil
  | cons c l ih => exact .cons (.str _) ih
theorem sign_vals {z : Str} {acc : Array Value} (h : ItemsOf (SignAt z) acc z.cps.size) : Vals (z.cps.toList.map fun c => V.str ⟨#[c]⟩) acc.toList := by
  obtain ⟨h1, h2⟩ := h
  have key : ∀ (l : List Nat) (vs : List Value), l.length = vs.length → (∀ (j : Nat) (v : Value), vs[j]? = some v → ∃ (c : Nat) (u : Tok), l[j]? = some c ∧ v = Value.str ⟨#[c]⟩ u) → Vals (l.map fun c => V.str ⟨#[c]⟩) vs := by
    intro l
    induction l with
    | nil =>
      intro vs hl _
      cases vs with
      | nil => exact .nil
      | cons _ _ => cases hl
    | cons c l ih =>
      intro vs hl hv
      cases vs with
      | nil => cases hl
      | cons v vs =>
        obtain ⟨c', u, e1, e2⟩ := hv 0 v rfl
        cases e1
        refine .cons ⟨u, e2⟩ (ih vs (by simpa using hl) fun j w e => ?_)
        obtain ⟨c2, u2, e3, e4⟩ := hv (j + 1) w (by simpa using e)
        exact ⟨c2, u2, by simpa using e3, e4⟩
  refine key _ _ (by simp [h1]) fun j v e => ?_
  obtain ⟨c, u, e1, e2⟩ := h2 j v (by simpa using e)
  exact ⟨c, u, by simpa using e1, e2⟩
theorem list_text {pins : List (Addr × Obj)} {s : Shared} {σ : L2.St} {H : Hp} {Q : VK} {z : Str} {t : Tok} (hh : X.A.handled = none) (I : L2.Inv X pins σ H s) (hz : z.length ≤ sizeLine) (q : ∀ l, H l = none → Q (.ref l) (upd H l (.lst (z.cps.toList.map fun c => V.str ⟨#[c]⟩)))) :
    wpAny (model X.prog X.w) X.A (call (.type "list") [.str z t]) (EP X pins σ Q) X.xe s := by
  refine call_list_str hh z t (fun h' tk acc' c' hk hS hacc => ?_) hz
  refine ⟨.ref s.heap.objs.size, _, I.laid (t' := tk) hk (Nat.le_refl _) (show ObjOk X.prog X.w _ h' _ (.lst (z.cps.toList.map fun c => V.str ⟨#[c]⟩)) from ⟨by simpa [Str.length] using hz, acc'.toList, c', sign_vals hacc, by simpa using hS⟩), rfl, q _ (I.hok.fresh (Nat.le_refl _))⟩
theorem cr_fn (hc : X.calm = true) (f : Fn) : CallR X (fnV f) (rFn X.K X.w f) := by
  intro pins s σ H xs us Q I r h
  obtain ⟨F, rho, S, u, x, p, rfl, st, cu, e, q⟩ := h
  unfold fnc at e
  split at e
  · rename_i ws heq
    cases heq
    cases e
    obtain ⟨a, vs, rfl, hq, cs⟩ := cu.tup st
    exact call_len_seq pins s σ H _ us Q I r ⟨a, vs, rfl, .inr hq, by rw [← cs.length]; exact q.here st (.int _)⟩
  · rename_i ks us' heq
    cases heq
    cases e
    cases cu with
    | of cu =>
      cases cu with
      | dct h l hs =>
        refine call_lenD pins s σ H _ us Q I r ⟨_, _, rfl, st.sub _ _ h, ?_⟩
        rw [List.length_zip, ← l, Nat.min_self]
        exact q.here st (.int _)
  · rename_i z heq
    cases heq
    split at e
    · rename_i hl
      cases e
      obtain rfl := cu.str
      exact call_len_str pins s σ H _ us Q I r ⟨z, rfl, big_line hl, q.here st (.int _)⟩
    · cases e
  · rename_i u' h1 h2 h3 heq
    cases heq
    simp only [Option.map_eq_some_iff] at e
    obtain ⟨ws, e1, rfl⟩ := e
    obtain ⟨a, vs, rfl, hq, cs⟩ := cu.items st e1
    exact call_len_seq pins s σ H _ us Q I r ⟨a, vs, rfl, .inl hq, by rw [← cs.length]; exact q.here st (.int _)⟩
  · rename_i u' heq
    cases heq
    simp only [Option.bind_eq_some_iff, Option.map_eq_some_iff] at e
    obtain ⟨ws, e1, bs, e2, rfl⟩ := e
    obtain ⟨a, vs, rfl, hq, cs⟩ := cu.items st e1
    rw [bls_of cs e2] at hq
    exact cr_all hc pins s σ H _ us Q I r ⟨a, bs, rfl, hq, q.here st (.bl _)⟩
  · rename_i u' heq
    cases heq
    simp only [Option.bind_eq_some_iff, Option.map_eq_some_iff] at e
    obtain ⟨ws, e1, bs, e2, rfl⟩ := e
    obtain ⟨a, vs, rfl, hq, cs⟩ := cu.items st e1
    rw [bls_of cs e2] at hq
    exact cr_any hc pins s σ H _ us Q I r ⟨a, bs, rfl, hq, q.here st (.bl _)⟩
  · rename_i ws heq
    cases heq
    cases e
    obtain ⟨a, vs, rfl, hq, cs⟩ := cu.tup st
    refine call_tuple_of pins s σ H _ us Q I r ⟨a, vs, rfl, .inr ⟨hq, ?_⟩⟩
    cases cu with
    | of cu => exact q.here st cu
  · rename_i u' h1 heq
    cases heq
    simp only [Option.map_eq_some_iff] at e
    obtain ⟨ws, e1, rfl⟩ := e
    obtain ⟨a, vs, rfl, hq, cs⟩ := cu.items st e1
    exact call_tuple_of pins s σ H _ us Q I r ⟨a, vs, rfl, .inl ⟨hq, fun l n => q.newT st cs n⟩⟩
  · rename_i ws heq
    cases heq
    cases e
    obtain ⟨a, vs, rfl, hq, cs⟩ := cu.tup st
    exact call_list_of pins s σ H _ us Q I r ⟨a, vs, rfl, .inr hq, fun l n => q l _ n cs⟩
  · rename_i z heq
    cases heq
    split at e
    · rename_i hl
      cases e
      obtain rfl := cu.str
      obtain ⟨v, rfl, rv⟩ := vals1 r
      obtain ⟨t, rfl⟩ := (show ∃ t, v = Value.str z t from rv)
      exact list_text (I.ok.hd hc) I (big_line hl) fun l n => q l _ n (signs_cv z)
    · cases e
  · rename_i u' h1 heq
    cases heq
    simp only [Option.map_eq_some_iff] at e
    obtain ⟨ws, e1, rfl⟩ := e
    obtain ⟨a, vs, rfl, hq, cs⟩ := cu.items st e1
    exact call_list_of pins s σ H _ us Q I r ⟨a, vs, rfl, .inl hq, fun l n => q l _ n cs⟩
  · rename_i i heq
    cases heq
    cases e
    obtain rfl := cu.int
    exact call_abs pins s σ H _ us Q I r ⟨i, rfl, q.here st (.int _)⟩
  · rename_i i heq
    cases heq
    split at e
    · rename_i hl
      cases e
      obtain rfl := cu.int
      exact call_str_int pins s σ H _ us Q I r ⟨i, rfl, hl, q.here st (.str _)⟩
    · cases e
  · rename_i b heq
    cases heq
    cases e
    have hb : x = .bl b := by
      cases cu with
      | of c => cases c; rfl
    subst hb
    exact call_int1 pins s σ H _ us Q I r (.inr ⟨b, rfl, q.here st (.int _)⟩)
  · rename_i ws heq
    cases heq
    simp only [Option.bind_eq_some_iff, Option.map_eq_some_iff] at e
    obtain ⟨ns, e1, m, e2, rfl⟩ := e
    obtain ⟨a, vs, rfl, hq, cs⟩ := cu.items st (us := ws) rfl
    rw [ints_of cs e1] at hq
    obtain ⟨l1, l2, l3⟩ := least_ok e2
    refine cr_min hc pins s σ H _ us Q I r ⟨a, ns, rfl, hq, l3, fun m' h1 h2 => ?_⟩
    have : m' = m := by
      have a1 := l2 m' h1
      have a2 := h2 m l1
      omega
    subst this
    exact q.here st (.int _)
  · rename_i z heq
    cases heq
    split at e
    · rename_i hl
      simp only [Option.map_eq_some_iff] at e
      obtain ⟨n, e1, rfl⟩ := e
      obtain rfl := cu.str
      exact call_int_str pins s σ H _ us Q I r ⟨z, n, rfl, e1, hl, q.here st (.int _)⟩
    · cases e
  · cases e

/-! ### items -/
theorem CVs.atI {K : PySem.W.Frag} {w : World} {F : Hp} {rho : List Addr} {us : List U} {vs : List V} {i : Int} {u : U} (h : CVs K w F rho us vs) (e : L2.atI us i = some u) : ∃ v, L2.atI vs i = some v ∧ CV K w F rho u v := by
  unfold L2.atI at e ⊢
  rw [← h.length]
  cases q : ixN us.length i with
  | none => rw [q] at e; cases e
  | some j =>
    rw [q] at e
    exact h.get e
def rItem (K : PySem.W.Frag) (w : World) : R2 := fun x y H Q => ∃ F rho S o i u, St K w F H rho S ∧ CVb K w F H rho o x ∧ CVb K w F H rho i y ∧ item S o i = some u ∧ ∀ v, CV K w F rho u v → Q v H
theorem ix_item (hu : X.A.units + 1 < cLine) : IxR X (rItem X.K X.w) := by
  intro value slice pins s σ H x y v u Q I rx ry h hs
  obtain ⟨F, rho, S, o, i, z, st, co, ci, e, q⟩ := h
  unfold item at e
  split at e
  · obtain ⟨a, vs, rfl, hq, cs⟩ := co.tup st
    obtain rfl := ci.int
    obtain ⟨r, e1, c⟩ := cs.atI e
    exact ix_tup value slice pins s σ H _ _ v u Q I rx ry ⟨a, vs, _, r, rfl, rfl, hq, e1, q r c⟩ hs
  · simp only [Option.bind_eq_some_iff] at e
    obtain ⟨k, e1, e2⟩ := e
    cases co with
    | of co =>
      cases co with
      | dct h l hs' =>
        rename_i ks us p vs
        cases rx
        obtain rfl := key_of ci e1
        rcases dct_val (k := k) hs' l with ⟨u1, v1, e3, e4, c⟩ | ⟨e3, e4⟩
        · rw [e2] at e3
          cases e3
          have g : DGet H p (kV k) (some v1) := by
            rw [← e4]
            exact DGet.k (st.sub _ _ h)
          exact tail_any (dict_typeIs I g) PySem.F.slot_dict_getitem.lookup (d_getItem hu I g ry fun w' s3 I3 rw' => ⟨v1, H, I3, rw', q v1 c⟩) hs
        · rw [e2] at e3
          cases e3
  · cases co with
    | of co =>
      cases co with
      | kdc h hs' =>
        rename_i p vs
        cases ci with
        | of ci =>
          cases ci
          rename_i zz
          obtain ⟨es, n, r, D, e1, _, e3⟩ := kdc_in (x := zz) h hs'
          obtain ⟨v1, z1, rfl, rv, c⟩ := e3 _ e
          exact ix_kdict value slice pins s σ H _ _ v u Q I rx ry ⟨p, zz, v1, rfl, rfl, ⟨es, n, z1, D.at_, D.lit, e1, rv⟩, q v1 c⟩ hs
  · simp only [Option.bind_eq_some_iff] at e
    obtain ⟨us, e1, e2⟩ := e
    obtain ⟨a, vs, rfl, hq, cs⟩ := co.items st e1
    obtain rfl := ci.int
    obtain ⟨r, e3, c⟩ := cs.atI e2
    exact ix_list value slice pins s σ H _ _ v u Q I rx ry ⟨a, vs, _, r, rfl, rfl, hq, e3, q r c⟩ hs
  · cases e

/-! ### slices -/
def rCut (K : PySem.W.Frag) (w : World) : V → Option Int → Option Int → Hp → VK → Prop := fun x lo hi H Q => ∃ F rho S o p, St K w F H rho S ∧ CVb K w F H rho o x ∧ cut S o lo hi = some p ∧ PP K w F H rho p Q
theorem cutL_all {α : Type} {xs : List α} {lo hi : Option Int} (h : HT.sIx xs.length 0 lo = 0 ∧ HT.sIx xs.length xs.length hi = xs.length) : cutL xs lo hi = xs := by
  unfold cutL
  rw [h.1, h.2]
  simp
theorem sl_cut : SlR X (rCut X.K X.w) := by
  intro pins s σ H x v vl vu lo hi sl Q I rx hs pl pu h
  obtain ⟨F, rho, S, o, p, st, co, e, q⟩ := h
  unfold cut at e
  split at e
  · cases e
    obtain ⟨a, vs, rfl, hq, cs⟩ := co.tup st
    refine sl_tupA pins s σ H _ v vl vu lo hi sl Q I rx hs pl pu ⟨a, vs, rfl, hq, fun z => ?_, fun _ p n => q.newT st (cs.cut lo hi) n⟩
    rw [← cs.length] at z
    rw [cutL_all z] at q
    cases co with
    | of co => exact q.here st co
  · rename_i z
    split at e
    · rename_i hl
      cases e
      obtain rfl := co.str
      exact sl_str pins s σ H _ v vl vu lo hi sl Q I rx hs pl pu ⟨z, rfl, big_line hl, q.here st (.str _)⟩
    · cases e
  · simp only [Option.map_eq_some_iff] at e
    obtain ⟨us, e1, rfl⟩ := e
    obtain ⟨a, vs, rfl, hq, cs⟩ := co.items st e1
    exact sl_list pins s σ H _ v vl vu lo hi sl Q I rx hs pl pu ⟨a, vs, rfl, hq, fun p n => q p _ n (cs.cut lo hi)⟩

/-! ### truth -/
theorem truth_of {K : PySem.W.Frag} {w : World} {F H : Hp} {rho : List Addr} {S : Sto} {u : U} {v : V} {k : Bool} (st : St K w F H rho S) (h : CV K w F rho u v) (e : truth S u = some k) : TruV K v H k := by
  cases h with
  | non => cases e; rfl
  | bl b => cases e; rfl
  | int i => cases e; rfl
  | str x => cases e
  | tup hq cs =>
    cases e
    refine .inr (.inl ⟨_, same_t st.sub hq, ?_⟩)
    cases cs <;> rfl
  | lst hq cs =>
    cases e
    refine .inl ⟨_, SqL.of (st.sub _ _ hq), ?_⟩
    cases cs <;> rfl
  | fz hq cs => cases e
  | dct => cases e
  | kdc => cases e
  | ref => cases e

/-! ### isinstance -/
def tyStr : Ty → String
  | .int => "int"
  | .bool => "bool"
  | .str => "str"
  | .tuple => "tuple"
  | .list => "list"
  | .dict => "dict"
def ofU : U → Option String
  | .non => some "NoneType"
  | .bl _ => some "bool"
  | .int _ => some "int"
  | .str _ => some "str"
  | .tup _ => some "tuple"
  | .lst _ => some "list"
  | .dct _ _ => some "dict"
  | _ => none
theorem tyx_of {K : PySem.W.Frag} {w : World} {F H : Hp} {rho : List Addr} {u : U} {v : V} {t : String} (s : Same F H) (h : CV K w F rho u v) (e : ofU u = some t) : TyX K H v (.type t) := by
  cases h with
  | non => cases e; exact .base .non
  | bl b => cases e; exact .base (.bl b)
  | int i => cases e; exact .base (.int i)
  | str x => cases e; exact .base (.str x)
  | tup hq cs =>
    cases e
    rcases hq with (h | ⟨o, h⟩) | ⟨o, its, n, h1, h2, _⟩
    · exact .base (.tup (s _ _ h))
    · exact .fTuple (s _ _ h)
    · exact .kTuple h1 h2
  | lst hq cs => cases e; exact .base (.lst (s _ _ hq))
  | fz hq cs => cases e
  | dct h => cases e; exact .base (.dK (s _ _ h))
  | kdc => cases e
  | ref => cases e
theorem tyIs_kit {t : Ty} {u : U} {k : Bool} (e : tyIs t u = some k) : ∃ n, ofU u = some n ∧ kitB n (tyStr t) = some k := by
  cases t <;> cases u <;> simp only [tyIs, Option.some.injEq, reduceCtorEq] at e <;> subst e <;> exact ⟨_, rfl, by decide +kernel⟩
end
end Far

set_option Elab.async false
set_option linter.all false
set_option maxRecDepth 100000
set_option maxHeartbeats 4000000
/-! a, b, *c = a tuple or a list. -/
namespace Far
open PySem PySem.Spec PyProof.Rows L2
section
variable {prog : Program} {w : World} {A : Around} {E : Value → Shared → Prop} {s : Shared}
theorem walksT (hh : A.handled = none) (it t : Addr) (hne : t ≠ it) (items : Array Value) (i0 : Nat) (hi0 : i0 ≤ items.size) :
    WalksS prog w A it [it, t] [it] (fun a b => a = b) (items.size - i0) (fun j v => items[i0 + j]? = some v) (fun j s => IsTupIter s.heap it t (i0 + j) ∧ IsTup s.heap t items) where
  sub := fun b hb => by simp at hb; simp [hb]
  grefl := fun _ => rfl
  gtrans := fun _ _ _ a b => a.trans b
  frame := fun i s h' tk st _ hk => ⟨let ⟨o, e, r⟩ := st.1; ⟨o, hk it (by simp) o e, r⟩, let ⟨o, e, r⟩ := st.2; ⟨o, hk t (by simp) o e, r⟩⟩
  item := fun i s Q E hi st hQ => by
    refine next_tuple_item st.1 st.2 (x := items[i0 + i]'(by omega)) (by simp [show i0 + i < items.size by omega]) fun h' hit' hs' => ?_
    exact hQ _ _ (by simp [show i0 + i < items.size by omega]) ⟨hit', st.2.extBut hs'.extBut hne⟩ ⟨fun b o hb e => hs'.extBut b o (fun h => hb (by simp [h])) e, rfl, rfl, rfl, Nat.le_refl _⟩
  done := fun s Q E st hQ => by
    refine next_tuple_end hh st.1 st.2 (by rw [Array.getElem?_eq_none_iff]; omega) fun h' he' => ?_
    exact hQ _ ⟨fun b o hb e => he' b o (fun h => hb (by simp [h])) e, rfl, rfl, rfl, Nat.le_refl _⟩
  self := fun _ _ _ _ st hQ => wpAny_pyIter_tupleiter st.1 hQ
theorem walksL (hh : A.handled = none) (it t : Addr) (hne : t ≠ it) (items : Array Value) (i0 : Nat) (hi0 : i0 ≤ items.size) :
    WalksS prog w A it [it, t] [it] (fun a b => a = b) (items.size - i0) (fun j v => items[i0 + j]? = some v) (fun j s => s.heap.IsListIter it t (i0 + j) ∧ s.heap.IsList t items) where
  sub := fun b hb => by simp at hb; simp [hb]
  grefl := fun _ => rfl
  gtrans := fun _ _ _ a b => a.trans b
  frame := fun i s h' tk st _ hk => ⟨st.1.at fun o e => hk it (by simp) o e, st.2.at fun o e => hk t (by simp) o e⟩
  item := fun i s Q E hi st hQ => by
    refine wpAny_pyNext_list_item st.1 st.2 (x := items[i0 + i]'(by omega)) (by simp [show i0 + i < items.size by omega]) fun h' hit' hs' => ?_
    exact hQ _ _ (by simp [show i0 + i < items.size by omega]) ⟨hit', st.2.extBut hs'.extBut hne⟩ ⟨fun b o hb e => hs'.extBut b o (fun h => hb (by simp [h])) e, rfl, rfl, rfl, Nat.le_refl _⟩
  done := fun s Q E st hQ => by
    refine wpAny_pyNext_list_end hh st.1 st.2 (by rw [Array.getElem?_eq_none_iff]; omega) fun h' he' => ?_
    exact hQ _ ⟨fun b o hb e => he' b o (fun h => hb (by simp [h])) e, rfl, rfl, rfl, Nat.le_refl _⟩
  self := fun _ _ _ _ st hQ => wpAny_pyIter_listiter st.1 hQ
/-- the first n of a walk -/
theorem drawW {I : Addr} {fp wr : List Addr} {m : Nat} {f : Nat → Option Value} {St : Nat → Shared → Prop} (W : WalksS prog w A I fp wr (fun a b => a = b) m (fun j v => f j = some v) St) :
    ∀ (n i : Nat) (s : Shared) (Q : List Value → Shared → Prop), St i s → i + n ≤ m → (∀ s' vs, St (i + n) s' → Moved wr (fun a b => a = b) s s' → vs.length = n → (∀ j v, vs[j]? = some v → f (i + j) = some v) → Q vs s') → wpAny (model prog w) A (draw (.ref I) n) Q E s
  | 0, i, s, Q, st, _, hQ => by
    show wpAny _ _ (pure []) Q E s
    exact wpAny_pure (hQ s [] st ⟨fun _ _ _ e => e, rfl, rfl, rfl, Nat.le_refl _⟩ rfl fun j v h => by simp at h)
  | n + 1, i, s, Q, st, hle, hQ => by
    show wpAny _ _ (pyNext (.ref I) >>= _) Q E s
    refine wpAny_bind (W.item i s _ _ (by omega) st fun v s1 hv st1 m1 => ?_)
    refine wpAny_bind (wpAny_holding (drawW W n (i + 1) s1 _ st1 (by omega) fun s2 vs st2 m2 hl hj => wpAny_pure ?_))
    refine hQ s2 (v :: vs) (by rw [show i + (n + 1) = i + 1 + n by omega]; exact st2) ⟨fun b o hb e => m2.heap b o hb (m1.heap b o hb e), m1.gens.trans m2.gens, m2.drawn.trans m1.drawn, m2.os.trans m1.os, Nat.le_trans m1.toks m2.toks⟩ (by simp [hl]) fun j u hu => ?_
    cases j with
    | zero =>
      simp at hu
      subst hu
      exact hv
    | succ j =>
      have := hj j u (by simpa using hu)
      rw [show i + (j + 1) = i + 1 + j by omega]
      exact this
theorem list_of_get : ∀ {xs ys : List Value}, xs.length = ys.length → (∀ (j : Nat) (v : Value), xs[j]? = some v → ys[j]? = some v) → xs = ys := fun {xs ys} hl h => by
  apply List.ext_getElem? fun j => ?_
  by_cases hj : j < xs.length
  · rw [List.getElem?_eq_getElem hj]
    exact (h j _ (List.getElem?_eq_getElem hj)).symm
  · rw [List.getElem?_eq_none (by omega), List.getElem?_eq_none (by omega)]
/-- k names and one for the rest -/
theorem unpackItems_star {v : Value} {items : Array Value} {k : Nat} {Q : List Value → Shared → Prop} {it : Addr} {fp : List Addr} {St : Nat → Nat → Shared → Prop} {T : String} (s0 : Shared)
    (hT : T = "list_iterator" ∨ T = "tuple_iterator") (hk : k ≤ items.size) (hz : items.size ≤ sizeLine)
    (hno : ∀ {Q : Bool → Shared → Prop}, Q false s → wpAny (model prog w) A (notIterableAtAll v) Q E s)
    (hit : ∀ {Q : Value → Shared → Prop}, Q (.ref it) s0 → wpAny (model prog w) A (pyIter v) Q E s)
    (W : ∀ i0 A, A.handled = none → i0 ≤ items.size → WalksS prog w A it fp [it] (fun a b => a = b) (items.size - i0) (fun j v => items[i0 + j]? = some v) (St i0)) (hh : A.handled = none)
    (hTy : ∀ i0 i s, St i0 i s → s.TypeIs (.ref it) T) (hst : St 0 0 s0) (hsh : ∀ i s, St 0 i s → St i 0 s) (hfp : ∀ i0 i (s : Shared), St i0 i s → ∀ b ∈ fp, b < s.heap.objs.size) (hI : it ∈ fp)
    (hs0 : ∀ b o, s.heap.get? b = some o → b ≠ it ∧ s0.heap.get? b = some o) (hg0 : s0.gens = s.gens ∧ s0.drawn = s.drawn ∧ s0.os = s.os ∧ s.toks ≤ s0.toks)
    (hQ : ∀ (h' : Heap) (tk : Nat), (∀ b o, s.heap.get? b = some o → h'.get? b = some o) → Q (items.toList.take k ++ [.ref h'.objs.size]) { s with heap := h'.push { cls := .type "list", data := .seq (items.toList.drop k).toArray }, toks := tk }) :
    wpAny (model prog w) A (unpackItems v (k + 1) (some k)) Q E s := by
  unfold unpackItems
  refine wpAny_bind (hno ?_)
  simp only [Bool.false_eq_true, if_false]
  refine wpAny_bind (wpAny_holding (hit ?_))
  refine wpAny_bind (wpAny_holding (drawW (W 0 A hh (Nat.zero_le _)) k 0 s0 _ hst (by omega) fun s1 vs st1 m1 hl hj => ?_))
  have hvs : vs = items.toList.take k := by
    refine list_of_get (by rw [hl, List.length_take]; simp only [Array.length_toList]; omega) fun j u hu => ?_
    have h1 := hj j u hu
    have h2 : j < k := by
      rw [← hl]
      exact (List.getElem?_eq_some_iff.mp hu).1
    rw [List.getElem?_take_of_lt h2, Array.getElem?_toList]
    simpa using h1
  subst hvs
  rw [if_neg (by rw [hl]; omega)]
  have st1' : St k 0 s1 := hsh k s1 (by simpa using st1)
  have hA1 : A.in1.handled = none := hh
  refine wpAny_bind (wpAny_holding (wpAny_collect_iter (T := T) (by rcases hT with h | h <;> simp [h]) (W k A.in1 hA1 hk) (fun i s h => hTy k i s h) st1' (fun b hb => hfp k 0 s1 st1' b hb) hI (fun s2 acc m2 hacc => ?_) (by omega)))
  have hrest : acc.toList = items.toList.drop k := by
    refine list_of_get (by rw [Array.length_toList, hacc.1, List.length_drop, Array.length_toList]) fun j u hu => ?_
    have h1 := hacc.2 j u (by simpa using hu)
    rw [List.getElem?_drop, Array.getElem?_toList]
    exact h1
  have hlen : acc.toList.length = items.size - k := by rw [Array.length_toList, hacc.1]
  have e0 : k + 1 - 1 - k = 0 := by omega
  rw [e0]
  rw [if_neg (by omega)]
  rw [Nat.sub_zero, List.take_length, List.drop_length]
  refine wpAny_bind (wpAny_newObj_type ?_ (by show acc.toList.toArray.size ≤ sizeLine; simp only [List.size_toArray]; omega))
  refine wpAny_pure ?_
  obtain ⟨hp, g, d, t, os⟩ := s
  obtain ⟨hp2, g2, d2, t2, os2⟩ := s2
  have k1 : ∀ b o, hp.get? b = some o → hp2.get? b = some o := fun b o e => by
    obtain ⟨nb, e1⟩ := hs0 b o e
    exact m2.heap b o (by simpa using nb) (m1.heap b o (by simpa using nb) e1)
  have e1 : g2 = g := (m2.gens.symm.trans (m1.gens.symm.trans hg0.1))
  have e2 : d2 = d := m2.drawn.trans (m1.drawn.trans hg0.2.1)
  have e3 : os2 = os := m2.os.trans (m1.os.trans hg0.2.2.1)
  subst e1 e2 e3
  rw [List.append_nil, hrest]
  exact hQ hp2 t2 k1
theorem unpack_star_tuple {t : Addr} {items : Array Value} {k : Nat} {Q : List Value → Shared → Prop} (hh : A.handled = none) (ht : IsTup s.heap t items) (hk : k ≤ items.size) (hz : items.size ≤ sizeLine)
    (hQ : ∀ (h' : Heap) (tk : Nat), (∀ b o, s.heap.get? b = some o → h'.get? b = some o) → Q (items.toList.take k ++ [.ref h'.objs.size]) { s with heap := h'.push { cls := .type "list", data := .seq (items.toList.drop k).toArray }, toks := tk }) :
    wpAny (model prog w) A (unpackItems (.ref t) (k + 1) (some k)) Q E s := by
  have hlt : t < s.heap.objs.size := by obtain ⟨o, ho, _⟩ := ht; exact Heap.lt_size ho
  have hne : t ≠ s.heap.objs.size := Nat.ne_of_lt hlt
  refine unpackItems_star (it := s.heap.objs.size) (fp := [s.heap.objs.size, t]) (T := "tuple_iterator") (St := fun i0 j s' => IsTupIter s'.heap s.heap.objs.size t (i0 + j) ∧ IsTup s'.heap t items)
    { s with heap := s.heap.push { cls := .type "tuple_iterator", data := .fields #[.ref t, .int 0 0] } } (.inr rfl) hk hz (fun q => ?_) (fun q => iter_tuple ht q) (fun i0 A hA hi => walksT hA _ t hne items i0 hi) hh
    (fun i0 i s' h => let ⟨o, e, c, _⟩ := h.1; ⟨o, e, c⟩) ⟨⟨_, Heap.get?_push_size _ rfl, rfl, rfl⟩, ht.push _⟩ (fun i s' h => by simpa using h) (fun i0 i s' h b hb => ?_) (by simp) (fun b o e => ⟨Nat.ne_of_lt (Heap.lt_size e), Heap.get?_push_of_some _ e⟩) ⟨rfl, rfl, rfl, Nat.le_refl _⟩ hQ
  · unfold notIterableAtAll
    exact wpAny_bind (wpAny_specialOf ht.typeIs slot_tuple_iter.lookup (wpAny_pure q))
  · rcases List.mem_cons.mp hb with rfl | hb
    · obtain ⟨o, e, _⟩ := h.1; exact Heap.lt_size e
    · have : b = t := by simpa using hb
      subst this
      obtain ⟨o, e, _⟩ := h.2; exact Heap.lt_size e
theorem unpack_star_list {t : Addr} {items : Array Value} {k : Nat} {Q : List Value → Shared → Prop} (hh : A.handled = none) (ht : s.heap.IsList t items) (hk : k ≤ items.size) (hz : items.size ≤ sizeLine)
    (hQ : ∀ (h' : Heap) (tk : Nat), (∀ b o, s.heap.get? b = some o → h'.get? b = some o) → Q (items.toList.take k ++ [.ref h'.objs.size]) { s with heap := h'.push { cls := .type "list", data := .seq (items.toList.drop k).toArray }, toks := tk }) :
    wpAny (model prog w) A (unpackItems (.ref t) (k + 1) (some k)) Q E s := by
  have hlt : t < s.heap.objs.size := by obtain ⟨o, ho, _⟩ := ht; exact Heap.lt_size ho
  have hne : t ≠ s.heap.objs.size := Nat.ne_of_lt hlt
  refine unpackItems_star (it := s.heap.objs.size) (fp := [s.heap.objs.size, t]) (T := "list_iterator") (St := fun i0 j s' => s'.heap.IsListIter s.heap.objs.size t (i0 + j) ∧ s'.heap.IsList t items)
    { s with heap := s.heap.push { cls := .type "list_iterator", data := .fields #[.ref t, .int 0 0] } } (.inl rfl) hk hz (fun q => ?_) (fun q => wpAny_pyIter_list ht q) (fun i0 A hA hi => walksL hA _ t hne items i0 hi) hh
    (fun i0 i s' h => let ⟨o, e, c, _⟩ := h.1; ⟨o, e, c⟩) ⟨⟨_, Heap.get?_push_size _ rfl, rfl, rfl⟩, ht.push _⟩ (fun i s' h => by simpa using h) (fun i0 i s' h b hb => ?_) (by simp) (fun b o e => ⟨Nat.ne_of_lt (Heap.lt_size e), Heap.get?_push_of_some _ e⟩) ⟨rfl, rfl, rfl, Nat.le_refl _⟩ hQ
  · unfold notIterableAtAll
    exact wpAny_bind (wpAny_specialOf ht.typeIs slot_list_iter.lookup (wpAny_pure q))
  · rcases List.mem_cons.mp hb with rfl | hb
    · obtain ⟨o, e, _⟩ := h.1; exact Heap.lt_size e
    · have : b = t := by simpa using hb
      subst this
      obtain ⟨o, e, _⟩ := h.2; exact Heap.lt_size e
end
section
variable {X : Cx}
/-- names and one for the rest, of a tuple or a list -/
def gStar (K : PySem.W.Frag) (k : Nat) (t : TGs) : TG := fun v σ H Q => ∃ a xs, v = .ref a ∧ (SqT K H a xs ∨ SqL K H a xs) ∧ k ≤ xs.length ∧ ∀ p, H p = none → t (xs.take k ++ [.ref p]) σ (upd H p (.lst (xs.drop k))) Q
theorem pg_star {es fs : List Expr} {n : Nat} {pos : Pos} {t : TGs} {k : Nat} (hc : X.calm = true) (h : PGs X fs t) (hn : (assignEach es X.env).length = k + 1) (hst : (assignEach es X.env).findIdx? (·.1) = some k)
    (hm : (assignEach es X.env).map (·.2) = (assignEach fs X.env).map (·.2)) : PG X (.Tuple es n pos) (gStar X.K k t) := by
  refine ⟨fun pins s σ H v u Q I r hw => ?_⟩
  obtain ⟨a, xs, e1, hq, hl, hw⟩ := hw
  subst e1
  cases r
  rw [assign_Tuple]
  refine wpAny_bind (wpAny_standAt ?_)
  unfold unpack
  rw [hn, hst]
  have fin : ∀ (its : List Value), Vals xs its → xs.length ≤ sizeLine → ∀ (h' : Heap) (tk : Nat), (∀ b o, s.heap.get? b = some o → h'.get? b = some o) →
      wpAny (model X.prog X.w) X.A (assignInOrder ((assignEach es X.env).map (·.2)) (its.take k ++ [.ref h'.objs.size])) (fun _ s' => ∃ σ' H', Inv X pins σ' H' s' ∧ Q σ' H') X.xe { s with heap := h'.push { cls := .type "list", data := .seq (its.drop k).toArray }, toks := tk } := by
    intro its rv hz h' tk hk
    have I1 : Inv X pins σ H { s with heap := h', toks := tk } := I.kept (t' := tk) hk
    have hf : H h'.objs.size = none := I1.hok.fresh (Nat.le_refl _)
    have I2 : Inv X pins σ (upd H h'.objs.size (.lst (xs.drop k))) { s with heap := h'.push { cls := .type "list", data := .seq (its.drop k).toArray }, toks := tk } :=
      I1.laid (t' := tk) (a := h'.objs.size) (o := .lst (xs.drop k)) (h' := h'.push { cls := .type "list", data := .seq (its.drop k).toArray }) (fun b u e => Heap.get?_push_of_some _ e) (Nat.le_refl _)
        ⟨by rw [List.length_drop]; omega, its.drop k, 0, rv.drop k, Heap.get?_push_size _ rfl⟩
    rw [hm]
    exact h.run pins _ σ _ _ _ Q I2 ((rv.take k).append (Paired.cons (show L2.RelV (V.ref h'.objs.size) (Value.ref h'.objs.size) from rfl) .nil)) (hw _ hf)
  rcases hq with hq | hq
  · obtain ⟨its, rv, ht, hz⟩ := I.tuple hq
    have e := rv.length
    exact wpAny_bind (wpAny_holding (unpack_star_tuple (I.ok.hd hc) ht (by simp; omega) (by simp; omega) fun h' tk hk => by simpa using fin its rv hz h' tk hk))
  · obtain ⟨its, rv, ht, hz⟩ := I.list hq
    have e := rv.length
    exact wpAny_bind (wpAny_holding (unpack_star_list (I.ok.hd hc) ht.isList (by simp; omega) (by simp; omega) fun h' tk hk => by simpa using fin its rv hz h' tk hk))
end
end Far

set_option Elab.async false
set_option linter.all false
set_option maxRecDepth 100000
set_option maxHeartbeats 4000000
/-! Readings by the evaluator; the checker; expressions. -/
namespace Far
open PySem PySem.Spec PyProof.Rows L2

/-- an error: its class, its dict -/
def XR (K : PySem.W.Frag) (w : World) (mg : Str → Option Value) (F : Hp) (rho : List Addr) (x : Exc) (c : Value) (d : Option Addr) : Prop :=
  mg x.cls = some c ∧ ∃ dx fs, d = some dx ∧ F dx = some (.xd fs) ∧ ∀ f u, x.fs.lookup f = some u → ∃ v, fs.lookup f = some v ∧ CV K w F rho u v

section
variable {K : PySem.W.Frag} {w : World} {mg : Str → Option Value}
/-- what is wanted behind an evaluation -/
def Post {α β : Type} (K : PySem.W.Frag) (w : World) (mg : Str → Option Value) (rel : Hp → Hp → List Addr → α → β → Prop) (F H : Hp) (rho : List Addr) (r : R α) (Q : β → Hp → Prop) (E : XK) : Prop := match r with
  | .ok a S' => ∀ b F' H' rho', Grow F H rho F' H' rho' → St K w F' H' rho' S' → rel F' H' rho' a b → Q b H'
  | .exc x S' => ∀ c d F' H' rho', Grow F H rho F' H' rho' → St K w F' H' rho' S' → XR K w mg F' rho' x c d → E c d H'
  | .bad => False
theorem Post.imp {α β : Type} {rel : Hp → Hp → List Addr → α → β → Prop} {F H : Hp} {rho : List Addr} {r : R α} {Q Q' : β → Hp → Prop} {E : XK} (h : Post K w mg rel F H rho r Q E) (q : ∀ b H', Q b H' → Q' b H') : Post K w mg rel F H rho r Q' E := by
  cases r with
  | ok a S => exact fun b F' H' rho' g st c => q _ _ (h b F' H' rho' g st c)
  | exc x S => exact h
  | bad => exact h
theorem Post.grow {α β : Type} {rel : Hp → Hp → List Addr → α → β → Prop} {F H F1 H1 : Hp} {rho rho1 : List Addr} {r : R α} {Q : β → Hp → Prop} {E : XK} (h : Post K w mg rel F H rho r Q E) (g : Grow F H rho F1 H1 rho1) : Post K w mg rel F1 H1 rho1 r Q E := by
  cases r with
  | ok a S => exact fun b F' H' rho' g' st c => h b F' H' rho' (g.trans g') st c
  | exc x S => exact fun c d F' H' rho' g' st xr => h c d F' H' rho' (g.trans g') st xr
  | bad => exact h
theorem Post.bind {α β γ δ : Type} {rel : Hp → Hp → List Addr → α → β → Prop} {rel2 : Hp → Hp → List Addr → γ → δ → Prop} {F H : Hp} {rho : List Addr} {r : R α} {k : α → Sto → R γ} {Q : δ → Hp → Prop} {E : XK}
    (h : Post K w mg rel2 F H rho (r.bind k) Q E) : Post K w mg rel F H rho r (fun b H1 => ∃ a S1 F1 rho1, Grow F H rho F1 H1 rho1 ∧ St K w F1 H1 rho1 S1 ∧ rel F1 H1 rho1 a b ∧ Post K w mg rel2 F1 H1 rho1 (k a S1) Q E ∧ r = .ok a S1) E := by
  cases r with
  | ok a S => exact fun b F' H' rho' g st c => ⟨a, S, F', rho', g, st, c, Post.grow h g, rfl⟩
  | exc x S => exact h
  | bad => exact h
def relV (K : PySem.W.Frag) (w : World) : Hp → Hp → List Addr → U → V → Prop := fun F _ rho u v => CV K w F rho u v
def relB (K : PySem.W.Frag) (w : World) : Hp → Hp → List Addr → U → V → Prop := fun F H rho u v => CVb K w F H rho u v
def relL (K : PySem.W.Frag) (w : World) : Hp → Hp → List Addr → List U → List V → Prop := fun F _ rho u v => CVs K w F rho u v
def relEq {α : Type} : Hp → Hp → List Addr → α → α → Prop := fun _ _ _ a b => a = b
theorem Post.pp {F H : Hp} {rho : List Addr} {S : Sto} {o : Option PR} {Q : VK} {E : XK} (st : St K w F H rho S) (h : Post K w mg (relV K w) F H rho (retP o S) Q E) : ∃ p, o = some p ∧ PP K w F H rho p Q := by
  cases o with
  | none => exact h.elim
  | some p => exact ⟨p, rfl, PP.get st fun v F' H' g k s c => h v F' H' rho g (st.more g s k) c⟩
theorem Post.val {F H : Hp} {rho : List Addr} {S : Sto} {u : U} {v : V} {Q : VK} {E : XK} (st : St K w F H rho S) (h : Post K w mg (relV K w) F H rho (.ok u S) Q E) (c : CV K w F rho u v) : Q v H := h v F H rho (Grow.refl _ _ _) st c
theorem Post.bool {F H : Hp} {rho : List Addr} {S : Sto} {o : Option Bool} {Q : VK} {E : XK} (st : St K w F H rho S) (h : Post K w mg (relV K w) F H rho (retB o S) Q E) : ∃ k, o = some k ∧ Q (.bl k) H := by
  cases o with
  | none => exact h.elim
  | some k => exact ⟨k, rfl, h.val st (.bl k)⟩
theorem Post.item {F H : Hp} {rho : List Addr} {S : Sto} {o : Option U} {Q : VK} {E : XK} (st : St K w F H rho S) (h : Post K w mg (relV K w) F H rho (retU o S) Q E) : ∃ u, o = some u ∧ ∀ v, CV K w F rho u v → Q v H := by
  cases o with
  | none => exact h.elim
  | some u => exact ⟨u, rfl, fun v c => h.val st c⟩

/-- what stands in a slot -/
def SlOk (K : PySem.W.Frag) (w : World) (F H : Hp) (rho : List Addr) : SL → Option V → Prop
  | .no, _ => True
  | .val u, o => ∃ v, o = some v ∧ CV K w F rho u v
  | .own us, o => ∃ p vs, o = some (.ref p) ∧ F p = none ∧ p ∉ rho ∧ H p = some (.lst vs) ∧ CVs K w F rho us vs
structure SlotsOk (K : PySem.W.Frag) (w : World) (F H : Hp) (rho : List Addr) (σ : Slots) (sv : L2.St) : Prop where
  len : σ.length = sv.length
  at_ : ∀ (i : Nat) (s : SL), σ[i]? = some s → ∃ o, sv[i]? = some o ∧ SlOk K w F H rho s o
  apart : ∀ (i j : Nat) (us ws : List U) (p : Addr), σ[i]? = some (.own us) → σ[j]? = some (.own ws) → sv[i]? = some (some (.ref p)) → sv[j]? = some (some (.ref p)) → i = j
theorem SlOk.grow {F H F' H' : Hp} {rho rho' : List Addr} (g : Grow F H rho F' H' rho') {s : SL} {o : Option V} (h : SlOk K w F H rho s o) : SlOk K w F' H' rho' s o := by
  cases s with
  | no => trivial
  | val u =>
    obtain ⟨v, e, c⟩ := h
    exact ⟨v, e, c.mono g.fex g.rex⟩
  | own us =>
    obtain ⟨p, vs, e, f, n, q, c⟩ := h
    have b : CVb K w F' H' rho' (.lst us) (.ref p) := CVb.grow g (.bor f n q c)
    refine ⟨p, vs, e, ?_, fun z => ?_, g.keep _ _ q n, c.mono g.fex g.rex⟩
    · cases z : F' p with
      | none => rfl
      | some x =>
        rcases g.fnew p x z with y | y
        · rw [f] at y; cases y
        · rw [q] at y; cases y
    · rcases g.rnew _ z with z | z
      · exact n z
      · rw [q] at z; cases z
theorem SlotsOk.grow {F H F' H' : Hp} {rho rho' : List Addr} {σ : Slots} {sv : L2.St} (h : SlotsOk K w F H rho σ sv) (g : Grow F H rho F' H' rho') : SlotsOk K w F' H' rho' σ sv where
  len := h.len
  at_ := fun i s e => by
    obtain ⟨o, e1, ok⟩ := h.at_ i s e
    exact ⟨o, e1, ok.grow g⟩
  apart := h.apart
end

/-! ### readings -/
section
variable (N : Cn) (cf : CF)
def rdE (K : PySem.W.Frag) (w : World) (mg : Str → Option Value) (W : WX) (e : LE) : TE := fun sv H Q => ∃ F rho σ S, St K w F H rho S ∧ SlotsOk K w F H rho σ sv ∧ Post K w mg (relV K w) F H rho (evE N cf σ e S) Q (WE W sv)
def rdB (K : PySem.W.Frag) (w : World) (mg : Str → Option Value) (W : WX) (e : LE) : TE := fun sv H Q => ∃ F rho σ S, St K w F H rho S ∧ SlotsOk K w F H rho σ sv ∧ Post K w mg (relB K w) F H rho (lookB (borOf σ e) (evE N cf σ e S) S) Q (WE W sv)
def rdEs (K : PySem.W.Frag) (w : World) (mg : Str → Option Value) (W : WX) (e : LEs) : TA := fun sv H Q => ∃ F rho σ S, St K w F H rho S ∧ SlotsOk K w F H rho σ sv ∧ Post K w mg (relL K w) F H rho (evEs N cf σ e S) Q (WE W sv)
def rdO (K : PySem.W.Frag) (w : World) (mg : Str → Option Value) (W : WX) (e : LO) : TO := fun sv H Q => ∃ F rho σ S, St K w F H rho S ∧ SlotsOk K w F H rho σ sv ∧ Post K w mg relEq F H rho (evO N cf σ e S) Q (WE W sv)
def rdT (K : PySem.W.Frag) (w : World) (mg : Str → Option Value) (W : WX) (e : LC) : TT := fun sv H Q => ∃ F rho σ S, St K w F H rho S ∧ SlotsOk K w F H rho σ sv ∧ Post K w mg relEq F H rho (evT N cf σ e S) Q (WE W sv)
end

theorem PE.imp {X : Cx} {e : Expr} {t t' : TE} (h : PE X e t) (q : ∀ sv H Q, t' sv H Q → t sv H Q) : PE X e t' := ⟨fun pins s σ H Q I z => h.run pins s σ H Q I (q _ _ _ z)⟩
theorem PA.imp {X : Cx} {e : List Expr} {t t' : TA} (h : PA X e t) (q : ∀ sv H Q, t' sv H Q → t sv H Q) : PA X e t' := ⟨fun pos pins s σ H Q I z => h.run pos pins s σ H Q I (q _ _ _ z)⟩
theorem PT.imp {X : Cx} {e : Expr} {t t' : TT} (h : PT X e t) (q : ∀ sv H Q, t' sv H Q → t sv H Q) : PT X e t' := ⟨fun pins s σ H Q I z => h.run pins s σ H Q I (q _ _ _ z)⟩
theorem PO.imp {X : Cx} {e : Option Expr} {t t' : TO} (h : PO X e t) (q : ∀ sv H Q, t' sv H Q → t sv H Q) : PO X e t' := ⟨fun pins s σ H Q I z => h.run pins s σ H Q I (q _ _ _ z)⟩

/-! ### what is walked -/
/-- an iterator that yields these, as long as what is frozen stays -/
structure Src (K : PySem.W.Frag) (w : World) (F : Hp) (rho : List Addr) (J : It) (us : List U) : Prop where
  go : ∀ (i : Nat) (F' H' : Hp), Same F F' → Same F' H' → i < us.length → J.go i H'
  stop : ∀ (i : Nat) (F' H' : Hp), Same F F' → Same F' H' → us.length ≤ i → J.stop i H'
  yld : ∀ (i : Nat) (u : U) (F' H' : Hp) (rho' : List Addr) (x : V) (H2 : Hp), Same F F' → Same F' H' → Pre rho rho' → us[i]? = some u → J.yld i H' x H2 → ∃ F2, Grow F' H' rho' F2 H2 rho' ∧ Same F2 H2 ∧ Same H' H2 ∧ CV K w F2 rho' u x
theorem src_lst {K : PySem.W.Frag} {w : World} {F : Hp} {rho : List Addr} {a : Addr} {us : List U} {vs : List V} (h : SqL K F a vs) (c : CVs K w F rho us vs) : Src K w F rho (Itl K a) us where
  go := fun i F' H' s1 s2 hi => by
    have hi' : i < vs.length := by rw [← c.length]; exact hi
    exact ⟨vs, vs[i], same_l s2 (same_l s1 h), List.getElem?_eq_getElem hi'⟩
  stop := fun i F' H' s1 s2 hi => ⟨vs, same_l s2 (same_l s1 h), by rw [← c.length]; exact hi⟩
  yld := fun i u F' H' rho' x H2 s1 s2 p e y => by
    obtain ⟨rfl, y⟩ := y
    obtain ⟨v, e1, cv⟩ := c.get e
    have e2 := y vs (same_l s2 (same_l s1 h))
    rw [e1] at e2
    cases e2
    exact ⟨F', Grow.refl _ _ _, s2, Same.refl _, cv.mono s1 p⟩
theorem src_tup {K : PySem.W.Frag} {w : World} {F : Hp} {rho : List Addr} {a : Addr} {us : List U} {vs : List V} (h : SqT K F a vs) (c : CVs K w F rho us vs) : Src K w F rho (Itt K a) us where
  go := fun i F' H' s1 s2 hi => by
    have hi' : i < vs.length := by rw [← c.length]; exact hi
    exact ⟨vs, vs[i], same_t s2 (same_t s1 h), List.getElem?_eq_getElem hi'⟩
  stop := fun i F' H' s1 s2 hi => ⟨vs, same_t s2 (same_t s1 h), by rw [← c.length]; exact hi⟩
  yld := fun i u F' H' rho' x H2 s1 s2 p e y => by
    obtain ⟨rfl, y⟩ := y
    obtain ⟨v, e1, cv⟩ := c.get e
    have e2 := y vs (same_t s2 (same_t s1 h))
    rw [e1] at e2
    cases e2
    exact ⟨F', Grow.refl _ _ _, s2, Same.refl _, cv.mono s1 p⟩
theorem src_rng {K : PySem.W.Frag} {w : World} {F : Hp} {rho : List Addr} (a b : Int) : Src K w F rho (Itr a (b - a).toNat) (rangeU a b) where
  go := fun i F' H' s1 s2 hi => by
    show i < (b - a).toNat
    simpa [rangeU] using hi
  stop := fun i F' H' s1 s2 hi => by
    show (b - a).toNat ≤ i
    simpa [rangeU] using hi
  yld := fun i u F' H' rho' x H2 s1 s2 p e y => by
    obtain ⟨rfl, rfl⟩ := y
    have hi : i < (b - a).toNat := by
      have := (List.getElem?_eq_some_iff.mp e).1
      simpa [rangeU] using this
    have e2 : u = .int (a + (i : Int)) := by
      simp [rangeU, hi] at e
      exact e.symm
    subst e2
    exact ⟨F', Grow.refl _ _ _, s2, Same.refl _, .int _⟩
theorem src_str {K : PySem.W.Frag} {w : World} {F : Hp} {rho : List Addr} (z : Str) : Src K w F rho (Its z) (signsU z) where
  go := fun i F' H' s1 s2 hi => by
    show i < z.cps.size
    simpa [signsU] using hi
  stop := fun i F' H' s1 s2 hi => by
    show z.cps.size ≤ i
    simpa [signsU] using hi
  yld := fun i u F' H' rho' x H2 s1 s2 p e y => by
    obtain ⟨rfl, c, e1, rfl⟩ := y
    unfold signsU at e
    rw [List.getElem?_map] at e
    have e2 : z.cps.toList[i]? = some c := by simpa using e1
    rw [e2] at e
    cases e
    exact ⟨F', Grow.refl _ _ _, s2, Same.refl _, .str _⟩
def relI (K : PySem.W.Frag) (w : World) : Hp → Hp → List Addr → List U → It → Prop := fun F _ rho us J => Src K w F rho J us
def rdI (N : Cn) (cf : CF) (K : PySem.W.Frag) (w : World) (mg : Str → Option Value) (W : WX) (e : LI) : TI := fun sv H Q => ∃ F rho σ S, St K w F H rho S ∧ SlotsOk K w F H rho σ sv ∧ Post K w mg (relI K w) F H rho (evI N cf σ e S) Q (WE W sv)
theorem PI.imp {X : Cx} {tg e : Expr} {t t' : TI} (h : PI X tg e t) (q : ∀ sv H Q, t' sv H Q → t sv H Q) : PI X tg e t' := ⟨fun pins s σ H Q I z => h.run pins s σ H Q I (q _ _ _ z)⟩
def iSeq (K : PySem.W.Frag) (tl : TE) : TI := fun σ H R => tl σ H fun x H1 => (∃ z, x = .str z ∧ R (Its z) H1) ∨ ∃ a, x = .ref a ∧ (((∃ xs, SqL K H1 a xs) ∧ R (Itl K a) H1) ∨ ((∃ xs, SqT K H1 a xs) ∧ R (Itt K a) H1))
theorem pi_seq {X : Cx} {tg l : Expr} {tl : TE} (hl : PE X l tl) : PI X tg l (iSeq X.K tl) := by
  refine ⟨fun pins s σ H R I h => ?_⟩
  refine thn (hl.run pins s σ H _ I h) fun v s1 ⟨x, H1, I1, r1, q1⟩ => ?_
  rcases q1 with ⟨z, rfl, q⟩ | ⟨a, e, q1⟩
  · obtain ⟨t, rfl⟩ := r1
    cases ha : z.cps.all (· < 128)
    · exact wpAny_pyIter_wide ha (pi_one (tk := s1.toks) I1 _ (turn_str _ z t "str_iterator" (.inr rfl)) ⟨_, Heap.get?_push_size _ rfl, rfl, rfl⟩ q)
    · exact wpAny_pyIter_ascii ha (pi_one (tk := s1.toks) I1 _ (turn_str _ z t "str_ascii_iterator" (.inl rfl)) ⟨_, Heap.get?_push_size _ rfl, rfl, rfl⟩ q)
  subst e
  cases r1
  rcases q1 with ⟨⟨xs, hq⟩, q⟩ | ⟨⟨xs, hq⟩, q⟩
  · obtain ⟨its, rv, p, hz⟩ := I1.list hq
    refine wpAny_pyIter_list p.isList ?_
    refine ⟨s1.heap.objs.size, [s1.heap.objs.size], _, _, H1, rfl, I1.kept (t' := s1.toks) fun b o e => Heap.get?_push_of_some _ e, turn_list a _, ⟨_, Heap.get?_push_size _ rfl, rfl, rfl⟩, fun b hb => ?_, q⟩
    have e : b = s1.heap.objs.size := by simpa using hb
    subst e
    exact I1.fpOk (Nat.le_refl _) (I1.hok.fresh (Nat.le_refl _))
  · obtain ⟨its, rv, p, hz⟩ := I1.tuple hq
    refine wpAny_pyIter_tuple (show s1.heap.IsTuple a its.toArray from p) ?_
    refine ⟨s1.heap.objs.size, [s1.heap.objs.size], _, _, H1, rfl, I1.kept (t' := s1.toks) fun b o e => Heap.get?_push_of_some _ e, turn_tuple a _, ⟨_, Heap.get?_push_size _ rfl, rfl, rfl⟩, fun b hb => ?_, q⟩
    have e : b = s1.heap.objs.size := by simpa using hb
    subst e
    exact I1.fpOk (Nat.le_refl _) (I1.hok.fresh (Nat.le_refl _))

/-! ### the checker -/
def visB (ns : List Str) (sc : Scope) (i : Nat) (x : Str) : Bool := ns[i]? == some x && ((sc.names.lookup x == some .local || sc.names.lookup x == some .cell || sc.names.lookup x == some .free) && (!(x == ("__debug__" : Str)) && !(x == ("__classdict__" : Str))))
def glB (sc : Scope) (x : Str) : Bool := sc.names.lookup x == some .globalImplicit && (!(x == ("__debug__" : Str)) && !(x == ("__name__" : Str)))
def bopOk : Bop → Operator → Bool
  | .add, .Add => true
  | .sub, .Sub => true
  | .mul, .Mult => true
  | .fdiv, .FloorDiv => true
  | .mod, .Mod => true
  | .pow, .Pow => true
  | _, _ => false
def copOk : Cop → CmpOp → Bool
  | .eq, .Eq => true
  | .ne, .NotEq => true
  | .lt, .Lt => true
  | .le, .LtE => true
  | .gt, .Gt => true
  | .ge, .GtE => true
  | .isin, .In => true
  | .notin, .NotIn => true
  | .isN, .Is => true
  | .notN, .IsNot => true
  | _, _ => false
def starred : Expr → Bool
  | .Starred .. => true
  | _ => false
def sliced : Expr → Bool
  | .Slice .. => true
  | _ => false
/-- whose truth is its value's -/
def plainT : Expr → Bool
  | .UnaryOp .Not _ _ => false
  | .BoolOp .. => false
  | .IfExp .. => false
  | .Compare .. => false
  | _ => true
def fnName : Fn → Str
  | .len => "len"
  | .all => "all"
  | .any => "any"
  | .tuple => "tuple"
  | .list => "list"
  | .abs => "abs"
  | .str => "str"
  | .int => "int"
  | .min => "min"
def tyName : Ty → Str
  | .int => "int"
  | .bool => "bool"
  | .str => "str"
  | .tuple => "tuple"
  | .list => "list"
  | .dict => "dict"
def metName : Met → Str
  | .split => "split"
  | .part => "partition"
  | .join => "join"
  | .starts => "startswith"
  | .ends => "endswith"
  | .index => "index"
def noargs : Expr → Bool
  | .Call _ [] [] _ => true
  | _ => false
def setLit : Expr → Bool
  | .Set .. => true
  | _ => false
/-- where a checker stands: the slots' names, the scope, which names have cells of their own -/
structure Ck where
  ns : List Str
  sc : Scope
  fn : Str → Bool
def Ck.vis (k : Ck) (i : Nat) (x : Str) : Bool := visB k.ns k.sc i x
def Ck.sto (k : Ck) (i : Nat) (x : Str) : Bool := k.ns[i]? == some x && ((k.sc.names.lookup x == some .local) || (k.sc.names.lookup x == some .cell && k.fn x))
/-- names, then one starred -/
def chkSt (k : Ck) : List Nat → Nat → List Expr → Bool
  | [], j, [.Starred (.Name x _) _] => k.sto j x
  | i :: is, j, .Name x _ :: es => k.sto i x && chkSt k is j es
  | _, _, _ => false
mutual
def chkT (k : Ck) : LT → Expr → Bool
  | .nm i, .Name x _ => k.sto i x
  | .tp ts, .Tuple es _ _ => chkTs k ts es
  | .st is j, .Tuple es _ _ => chkSt k is j es
  | _, _ => false
def chkTs (k : Ck) : List LT → List Expr → Bool
  | [], [] => true
  | t :: ts, e :: es => chkT k t e && (!starred e && chkTs k ts es)
  | _, _ => false
end
def keyOk : Key → Expr → Bool
  | .inl i, .Constant (.int j) _ _ => i == j
  | .inr x, .Constant (.str y) _ _ => x == y
  | _, _ => false
def keysOk : List Key → List (Option Expr) → Bool
  | [], [] => true
  | k :: ks, some e :: es => keyOk k e && keysOk ks es
  | _, _ => false
def tysOk (sc : Scope) : List Ty → List Expr → Bool
  | [], [] => true
  | t :: ts, .Name x _ :: es => x == tyName t && (glB sc x && tysOk sc ts es)
  | _, _ => false
/-- the block of a comprehension -/
def Ck.blk (k : Ck) (scope : Scope) : Ck := ⟨k.ns, relS scope k.sc, fun x => scope.names.lookup x == some .cell⟩
def ownOk (k : Ck) (own : List Nat) (scope : Scope) : Bool := blkC k.ns k.sc scope (own.map fun i => (k.ns.getD i Str.empty, i))
mutual
def chkE (k : Ck) : LE → Expr → Bool
  | .bad, _ => true
  | .c u, e => (match u, e with
    | .int i, .Constant (.int j) _ _ => i == j
    | .bl b, .Constant (.bool d) _ _ => b == d
    | .str x, .Constant (.str y) _ _ => x == y
    | .non, .Constant .none _ _ => true
    | _, _ => false)
  | .v i, e => (match e with
    | .Name x _ => k.vis i x
    | _ => false)
  | .b i, e => (match e with
    | .Name x _ => k.vis i x
    | _ => false)
  | .xf _ _, _ => false
  | .g x, e => (match e with
    | .Name y _ => x == y && glB k.sc x
    | _ => false)
  | .op o a b, e => (match e with
    | .BinOp l p r _ => bopOk o p && (chkE k a l && chkE k b r)
    | _ => false)
  | .neg a, e => (match e with
    | .UnaryOp .USub x _ => chkE k a x
    | _ => false)
  | .cmp o a b, e => (match e with
    | .Compare l [p] [r] _ => copOk o p && (!behindInMarks p r && (chkE k a l && chkE k b r))
    | _ => false)
  | .chn o o' a b c, e => (match e with
    | .Compare l [p, p'] [m, r] _ => copOk o p && (copOk o' p' && (!lastMarks [p, p'] [m, r] && (chkE k a l && (chkE k b m && chkE k c r))))
    | _ => false)
  | .not a, e => (match e with
    | .UnaryOp .Not x _ => chkE k a x
    | _ => false)
  | .and a b, e => (match e with
    | .BoolOp .And [l, r] _ => chkE k a l && chkE k b r
    | .BoolOp .And (l :: r :: r2 :: rest) p => chkE k a l && chkE k b (.BoolOp .And (r :: r2 :: rest) p)
    | _ => false)
  | .or a b, e => (match e with
    | .BoolOp .Or [l, r] _ => chkE k a l && chkE k b r
    | .BoolOp .Or (l :: r :: r2 :: rest) p => chkE k a l && chkE k b (.BoolOp .Or (r :: r2 :: rest) p)
    | _ => false)
  | .ite t a b, e => (match e with
    | .IfExp c x y _ => chkC k t c && (chkE k a x && chkE k b y)
    | _ => false)
  | .tup es, e => (match e with
    | .Tuple xs _ _ => chkEs k es xs
    | _ => false)
  | .lst es, e => (match e with
    | .List xs _ => chkEs k es xs
    | _ => false)
  | .sto es, e => (match e with
    | .List xs _ => chkEs k es xs
    | _ => false)
  | .dct ks es, e => (match e with
    | .Dict keys vals _ => keysOk ks keys && (decide (keys.length = vals.length) && (!keys.isEmpty && (decide (keys.length ≤ 15) && chkEs k es vals)))
    | _ => false)
  | .sub a i, e => (match e with
    | .Subscript x y _ => !sliced y && (chkE k a x && chkE k i y)
    | _ => false)
  | .slc a lo hi, e => (match e with
    | .Subscript x (.Slice l h none _) _ => chkE k a x && (chkO k lo l && chkO k hi h)
    | _ => false)
  | .fn f a, e => (match e with
    | .Call (.Name x _) [y] [] _ => x == fnName f && (glB k.sc x && (!starred y && chkE k a y))
    | _ => false)
  | .isi a t, e => (match e with
    | .Call (.Name x _) [y, .Name z _] [] _ => x == ("isinstance" : Str) && (glB k.sc x && (!starred y && (z == tyName t && (glB k.sc z && chkE k a y))))
    | _ => false)
  | .isiT a ts, e => (match e with
    | .Call (.Name x _) [y, .Tuple zs _ _] [] _ => x == ("isinstance" : Str) && (glB k.sc x && (!starred y && (tysOk k.sc ts zs && chkE k a y)))
    | _ => false)
  | .call f es, e => (match e with
    | .Call (.Name x _) ys [] _ => x == f && (glB k.sc x && (!ys.isEmpty && chkEs k es ys))
    | _ => false)
  | .lc own tg it cs a, e => (match e with
    | .ListComp elt [⟨t, iter, ifs, 0⟩] scope _ => ownOk k own scope && (!setLit iter && (tg.slots.all own.contains && (chkT (k.blk scope) tg t && (chkI k it iter && (chkK (k.blk scope) cs ifs && chkE (k.blk scope) a elt)))))
    | _ => false)
  | .m1 m a b, e => (match e with
    | .Call (.Attribute x n ap) [z] [] p => n == metName m && ((ap.endLine == p.line) && (!noargs x && (!starred z && (chkE k a x && chkE k b z))))
    | _ => false)
  | .fs es, e => (match e with
    | .JoinedStr (v1 :: v2 :: rest) _ => chkEs k es (v1 :: v2 :: rest)
    | _ => false)
  | .fv a, e => (match e with
    | .FormattedValue x c none _ => c == -1 && chkE k a x
    | _ => false)
def chkEs (k : Ck) : LEs → List Expr → Bool
  | .nil, [] => true
  | .cons e es, x :: xs => !starred x && (chkE k e x && chkEs k es xs)
  | _, _ => false
def chkO (k : Ck) : LO → Option Expr → Bool
  | .non, none => true
  | .som e, some x => chkE k e x
  | _, _ => false
def chkC (k : Ck) : LC → Expr → Bool
  | .and a b, e => (match e with
    | .BoolOp .And [l, r] _ => chkC k a l && chkC k b r
    | .BoolOp .And (l :: r :: r2 :: rest) p => chkC k a l && chkC k b (.BoolOp .And (r :: r2 :: rest) p)
    | _ => false)
  | .or a b, e => (match e with
    | .BoolOp .Or [l, r] _ => chkC k a l && chkC k b r
    | .BoolOp .Or (l :: r :: r2 :: rest) p => chkC k a l && chkC k b (.BoolOp .Or (r :: r2 :: rest) p)
    | _ => false)
  | .not a, e => (match e with
    | .UnaryOp .Not x _ => chkC k a x
    | _ => false)
  | .cmp o a b, e => (match e with
    | .Compare l [p] [r] _ => copOk o p && (!behindInMarks p r && (chkE k a l && chkE k b r))
    | _ => false)
  | .chn o o' a b c, e => (match e with
    | .Compare l [p, p'] [m, r] _ => copOk o p && (copOk o' p' && (!lastMarks [p, p'] [m, r] && (chkE k a l && (chkE k b m && chkE k c r))))
    | _ => false)
  | .e a, e => plainT e && chkE k a e
def chkK (k : Ck) : LK → List Expr → Bool
  | .non, [] => true
  | .som c, [x] => chkC k c x
  | _, _ => false
def chkI (k : Ck) : LI → Expr → Bool
  | .seq a, e => chkE k a e
  | .rng1 b, e => (match e with
    | .Call (.Name x _) [y] [] _ => x == ("range" : Str) && (glB k.sc x && (!starred y && chkE k b y))
    | _ => false)
  | .rng2 a b, e => (match e with
    | .Call (.Name x _) [y, z] [] _ => x == ("range" : Str) && (glB k.sc x && (!starred y && (!starred z && (chkE k a y && chkE k b z))))
    | _ => false)
end
end Far

set_option Elab.async false
set_option linter.all false
set_option maxRecDepth 100000
set_option maxHeartbeats 4000000
/-! Expressions keep what the evaluator says. -/
namespace Far
open PySem PySem.Spec PyProof.Rows L2

/-- a def's promise by the evaluator -/
def spOf (K : PySem.W.Frag) (w : World) (mg : Str → Option Value) (cf : CF) (f : Str) (ps : List Str) : Sp := fun vs H Q E => ∃ F rho S us, St K w F H rho S ∧ CVs K w F rho us vs ∧ vs.length = ps.length ∧ Post K w mg (relV K w) F H rho (cf f us S) Q E
def CallsOk (N : Cn) (cf : CF) (X : Cx) (n : Nat) : Prop := ∀ f, N.has f = true → ∃ a fd ps, X.mg f = some (.ref a) ∧ PySem.W.keepIn X.K (.ref a) = true ∧
  FnOk X.prog X.w X.K X.mg X.base (L2.CX X.prog X.w) n a fd ps (spOf X.K X.w X.mg cf f ps) ∧ Binds X.K fd ps [] ∧ ∀ us S, cf f us S ≠ .bad → us.length = ps.length
def bltNames : List Str := ["len", "all", "any", "tuple", "list", "abs", "isinstance", "int", "bool", "str", "dict", "range", "min"]
structure XOk (N : Cn) (cf : CF) (k : Ck) (X : Cx) (W : WX) : Prop where
  ns : X.N = k.ns
  sc : X.env.scope = k.sc
  fn : ∀ x, k.fn x = true → X.fn x = true
  nd : X.N.Nodup
  calm : X.calm = true
  room : X.A.units + 65 < cLine
  con : ∀ x u, N.g x = some u → ∃ v z, X.mg x = some z ∧ RelV v z ∧ CV X.K X.w (fun _ => none) [] u v
  free : ∀ x ∈ bltNames, X.mg x = none
  takes : Takes X W
  calls : ∃ n, Room n X.A ∧ CallsOk N cf X n

section
variable {N : Cn} {cf : CF} {k : Ck} {X : Cx} {W : WX}
theorem ba {a b : Bool} (h : (a && b) = true) : a = true ∧ b = true := Bool.and_eq_true_iff.mp h
theorem XOk.vis (o : XOk N cf k X W) {i : Nat} {x : Str} (h : k.vis i x = true) : X.N[i]? = some x ∧ Vis X.env.scope x ∧ (x == ("__debug__" : Str)) = false ∧ (x == ("__classdict__" : Str)) = false := by
  unfold Ck.vis visB at h
  obtain ⟨h1, h2⟩ := ba h
  obtain ⟨h3, h4⟩ := ba h2
  obtain ⟨h5, h6⟩ := ba h4
  rw [o.ns, o.sc]
  refine ⟨by simpa using h1, ?_, by simpa using h5, by simpa using h6⟩
  simp only [Bool.or_eq_true, beq_iff_eq] at h3
  rcases h3 with (h3 | h3) | h3
  · exact .inl h3
  · exact .inr (.inl h3)
  · exact .inr (.inr h3)
theorem XOk.gl (o : XOk N cf k X W) {x : Str} (h : glB k.sc x = true) : Gl X x ∧ (x == ("__debug__" : Str)) = false ∧ x ≠ "__name__" := by
  unfold glB at h
  obtain ⟨h1, h2⟩ := ba h
  obtain ⟨h3, h4⟩ := ba h2
  refine ⟨?_, by simpa using h3, by simpa using h4⟩
  show X.env.scope.names.lookup x = _
  rw [o.sc]
  simpa using h1

/-! ### single expressions -/
theorem e_var (o : XOk N cf k X W) {i : Nat} {x : Str} {p : Pos} (h : k.vis i x = true) : PE X (.Name x p) (rdE N cf X.K X.w X.mg W (.v i)) := by
  obtain ⟨h1, h2, h3, h4⟩ := o.vis h
  refine PE.imp (pe_var h1 h2 h3 h4) fun sv H Q q => ?_
  obtain ⟨F, rho, σ, S, st, sl, q⟩ := q
  simp only [evE] at q
  cases e : σ[i]? with
  | none => rw [e] at q; exact q.elim
  | some s =>
    rw [e] at q
    cases s with
    | val u =>
      obtain ⟨o, e1, v, rfl, c⟩ := sl.at_ i _ e
      exact ⟨v, e1, q.val st c⟩
    | no => exact q.elim
    | own us => exact q.elim
theorem b_var (o : XOk N cf k X W) {i : Nat} {x : Str} {p : Pos} (h : k.vis i x = true) : PE X (.Name x p) (rdB N cf X.K X.w X.mg W (.b i)) := by
  obtain ⟨h1, h2, h3, h4⟩ := o.vis h
  refine PE.imp (pe_var h1 h2 h3 h4) fun sv H Q q => ?_
  obtain ⟨F, rho, σ, S, st, sl, q⟩ := q
  simp only [borOf] at q
  cases e : σ[i]? with
  | none => rw [e] at q; exact q.elim
  | some s =>
    rw [e] at q
    cases s with
    | own us =>
      obtain ⟨o, e1, p, vs, rfl, f, n, hp, c⟩ := sl.at_ i _ e
      exact ⟨.ref p, e1, q _ F H rho (Grow.refl _ _ _) st (.bor f n hp c)⟩
    | no => exact q.elim
    | val u => exact q.elim
theorem e_g (o : XOk N cf k X W) {x : Str} {p : Pos} (h : glB k.sc x = true) : PE X (.Name x p) (rdE N cf X.K X.w X.mg W (.g x)) := by
  obtain ⟨h1, h2, h3⟩ := o.gl h
  cases e : N.g x with
  | none =>
    refine ⟨fun pins s σ H Q I q => ?_⟩
    obtain ⟨F, rho, σ, S, st, sl, q⟩ := q
    simp only [evE, e, retU] at q
    exact q.elim
  | some u =>
    obtain ⟨v, z, m, r, c⟩ := o.con x u e
    refine PE.imp (pe_glob h1 m r h2) fun sv H Q q => ?_
    obtain ⟨F, rho, σ, S, st, sl, q⟩ := q
    simp only [evE, e, retU] at q
    exact q.val st (c.mono (fun _ _ h => by cases h) ⟨rho, by simp⟩)
theorem e_b {e : Expr} {le : LE} (h : PE X e (rdE N cf X.K X.w X.mg W le)) (hb : ∀ σ, borOf σ le = none) : PE X e (rdB N cf X.K X.w X.mg W le) := by
  refine PE.imp h fun sv H Q q => ?_
  obtain ⟨F, rho, σ, S, st, sl, q⟩ := q
  rw [hb σ] at q
  refine ⟨F, rho, σ, S, st, sl, ?_⟩
  have q' : Post X.K X.w X.mg (relB X.K X.w) F H rho (evE N cf σ le S) Q (WE W sv) := q
  revert q'
  cases evE N cf σ le S with
  | ok u S' => exact fun q' v F' H' rho' g st' c => q' v F' H' rho' g st' (.of c)
  | exc x S' => exact fun q' => q'
  | bad => exact fun q' => q'
theorem e_op {o : Bop} {op : Operator} {a b : LE} {l r : Expr} {p : Pos} (ho : bopOk o op = true) (ha : PE X l (rdB N cf X.K X.w X.mg W a)) (hb : PE X r (rdB N cf X.K X.w X.mg W b)) : PE X (.BinOp l op r p) (rdE N cf X.K X.w X.mg W (.op o a b)) := by
  have e : op = bopA o := by cases o <;> cases op <;> first | rfl | cases ho
  subst e
  refine PE.imp (pe_op (opr_bop o) ha hb) fun sv H Q q => ?_
  obtain ⟨F, rho, σ, S, st, sl, q⟩ := q
  simp only [evE] at q
  refine ⟨F, rho, σ, S, st, sl, (Post.bind q).imp fun x H1 ⟨u, S1, F1, rho1, g1, st1, c1, q1, _⟩ => ?_⟩
  refine ⟨F1, rho1, σ, S1, st1, sl.grow g1, (Post.bind q1).imp fun y H2 ⟨u2, S2, F2, rho2, g2, st2, c2, q2, _⟩ => ?_⟩
  obtain ⟨pr, e, pp⟩ := q2.pp st2
  exact ⟨F2, rho2, S2, u, u2, pr, st2, CVb.grow g2 c1, c2, e, pp⟩
theorem e_neg {a : LE} {x : Expr} {p : Pos} (ha : PE X x (rdE N cf X.K X.w X.mg W a)) : PE X (.UnaryOp .USub x p) (rdE N cf X.K X.w X.mg W (.neg a)) := by
  refine PE.imp (pe_un un_neg ha) fun sv H Q q => ?_
  obtain ⟨F, rho, σ, S, st, sl, q⟩ := q
  simp only [evE] at q
  refine ⟨F, rho, σ, S, st, sl, (Post.bind q).imp fun x H1 ⟨u, S1, F1, rho1, g1, st1, c1, q1, _⟩ => ?_⟩
  cases u with
  | int i => cases c1; exact ⟨i, rfl, q1.val st1 (.int _)⟩
  | _ => exact q1.elim
theorem e_cmp (ok : XOk N cf k X W) {o : Cop} {op : CmpOp} {a b : LE} {l r : Expr} {p : Pos} (ho : copOk o op = true) (hm : behindInMarks op r = false) (ha : PE X l (rdB N cf X.K X.w X.mg W a)) (hb : PE X r (rdB N cf X.K X.w X.mg W b)) :
    PE X (.Compare l [op] [r] p) (rdE N cf X.K X.w X.mg W (.cmp o a b)) ∧ PT X (.Compare l [op] [r] p) (rdT N cf X.K X.w X.mg W (.cmp o a b)) := by
  have e : op = copA o := by cases o <;> cases op <;> first | rfl | cases ho
  subst e
  have key : ∀ sv H (Q : VK), rdE N cf X.K X.w X.mg W (.cmp o a b) sv H Q → tOp (rCop X.K X.w o) (rdB N cf X.K X.w X.mg W a) (rdB N cf X.K X.w X.mg W b) sv H Q := fun sv H Q q => by
    obtain ⟨F, rho, σ, S, st, sl, q⟩ := q
    simp only [evE] at q
    refine ⟨F, rho, σ, S, st, sl, (Post.bind q).imp fun x H1 ⟨u, S1, F1, rho1, g1, st1, c1, q1, _⟩ => ?_⟩
    refine ⟨F1, rho1, σ, S1, st1, sl.grow g1, (Post.bind q1).imp fun y H2 ⟨u2, S2, F2, rho2, g2, st2, c2, q2, _⟩ => ?_⟩
    obtain ⟨kk, e, pp⟩ := q2.bool st2
    exact ⟨F2, rho2, S2, u, u2, kk, st2, CVb.grow g2 c1, c2, e, pp⟩
  refine ⟨PE.imp (pe_cmpR (opr_cop (by have := ok.room; omega) o) ha hb hm) key, PT.imp (pt_cmpR (opr_cop (by have := ok.room; omega) o) ha hb hm) fun sv H Q q => ?_⟩
  obtain ⟨F, rho, σ, S, st, sl, q⟩ := q
  simp only [evT] at q
  refine ⟨F, rho, σ, S, st, sl, (Post.bind q).imp fun x H1 ⟨u, S1, F1, rho1, g1, st1, c1, q1, _⟩ => ?_⟩
  refine ⟨F1, rho1, σ, S1, st1, sl.grow g1, (Post.bind q1).imp fun y H2 ⟨u2, S2, F2, rho2, g2, st2, c2, q2, _⟩ => ?_⟩
  cases e : cop o S2 u u2 with
  | none => rw [e] at q2; exact q2.elim
  | some kk =>
    rw [e] at q2
    exact ⟨F2, rho2, S2, u, u2, kk, st2, CVb.grow g2 c1, c2, e, kk, rfl, q2 kk F2 H2 rho2 (Grow.refl _ _ _) st2 rfl⟩
theorem e_chn (ok : XOk N cf k X W) {o o' : Cop} {op op' : CmpOp} {a b c : LE} {l m r : Expr} {p : Pos} (ho : copOk o op = true) (ho' : copOk o' op' = true) (hm : lastMarks [op, op'] [m, r] = false) (ha : PE X l (rdE N cf X.K X.w X.mg W a)) (hb : PE X m (rdE N cf X.K X.w X.mg W b)) (hc : PE X r (rdE N cf X.K X.w X.mg W c)) :
    PE X (.Compare l [op, op'] [m, r] p) (rdE N cf X.K X.w X.mg W (.chn o o' a b c)) ∧ PT X (.Compare l [op, op'] [m, r] p) (rdT N cf X.K X.w X.mg W (.chn o o' a b c)) := by
  have e : op = copA o := by cases o <;> cases op <;> first | rfl | cases ho
  subst e
  have e : op' = copA o' := by cases o' <;> cases op' <;> first | rfl | cases ho'
  subst e
  have key : ∀ sv H (Q : VK), rdE N cf X.K X.w X.mg W (.chn o o' a b c) sv H Q → tChain (rCop X.K X.w o) (rCop X.K X.w o') (rdE N cf X.K X.w X.mg W a) (rdE N cf X.K X.w X.mg W b) (rdE N cf X.K X.w X.mg W c) sv H Q := fun sv H Q q => by
    obtain ⟨F, rho, σ, S, st, sl, q⟩ := q
    simp only [evE] at q
    refine ⟨F, rho, σ, S, st, sl, (Post.bind q).imp fun x H1 ⟨u, S1, F1, rho1, g1, st1, c1, q1, _⟩ => ?_⟩
    refine ⟨F1, rho1, σ, S1, st1, sl.grow g1, (Post.bind q1).imp fun y H2 ⟨u2, S2, F2, rho2, g2, st2, c2, q2, _⟩ => ?_⟩
    cases e : cop o S2 u u2 with
    | none => rw [e] at q2; exact q2.elim
    | some kk =>
      rw [e] at q2
      refine ⟨F2, rho2, S2, u, u2, kk, st2, CVb.grow g2 (.of c1), .of c2, e, kk, rfl, ?_⟩
      cases kk with
      | false => exact ite_ff (q2.val st2 (.bl _))
      | true =>
        refine ite_tt ⟨F2, rho2, σ, S2, st2, (sl.grow g1).grow g2, (Post.bind q2).imp fun z H3 ⟨u3, S3, F3, rho3, g3, st3, c3, q3, _⟩ => ?_⟩
        obtain ⟨kk, e, pp⟩ := q3.bool st3
        exact ⟨F3, rho3, S3, u2, u3, kk, st3, CVb.grow g3 (.of c2), .of c3, e, pp⟩
  refine ⟨PE.imp (pe_chain (opr_cop (by have := ok.room; omega) o) (opr_cop (by have := ok.room; omega) o') ha hb hc hm) key, PT.imp (pt_chain (opr_cop (by have := ok.room; omega) o) (opr_cop (by have := ok.room; omega) o') ha hb hc hm) fun sv H Q q => ?_⟩
  obtain ⟨F, rho, σ, S, st, sl, q⟩ := q
  simp only [evT] at q
  refine ⟨F, rho, σ, S, st, sl, (Post.bind q).imp fun x H1 ⟨u, S1, F1, rho1, g1, st1, c1, q1, _⟩ => ?_⟩
  refine ⟨F1, rho1, σ, S1, st1, sl.grow g1, (Post.bind q1).imp fun y H2 ⟨u2, S2, F2, rho2, g2, st2, c2, q2, _⟩ => ?_⟩
  cases e : cop o S2 u u2 with
  | none => rw [e] at q2; exact q2.elim
  | some kk =>
    rw [e] at q2
    refine ⟨F2, rho2, S2, u, u2, kk, st2, CVb.grow g2 (.of c1), .of c2, e, kk, rfl, ?_⟩
    cases kk with
    | false => exact ite_ff ⟨false, rfl, q2 false F2 H2 rho2 (Grow.refl _ _ _) st2 rfl⟩
    | true =>
      refine ite_tt ⟨F2, rho2, σ, S2, st2, (sl.grow g1).grow g2, (Post.bind q2).imp fun z H3 ⟨u3, S3, F3, rho3, g3, st3, c3, q3, _⟩ => ?_⟩
      cases e : cop o' S3 u2 u3 with
      | none => rw [e] at q3; exact q3.elim
      | some kk =>
        rw [e] at q3
        exact ⟨F3, rho3, S3, u2, u3, kk, st3, CVb.grow g3 (.of c2), .of c3, e, kk, rfl, q3 kk F3 H3 rho3 (Grow.refl _ _ _) st3 rfl⟩
/-- a test by truth -/
theorem t_plain {e : LE} {x : Expr} (hp : plainT x = true) (h : PE X x (rdE N cf X.K X.w X.mg W e)) : PT X x (rdT N cf X.K X.w X.mg W (.e e)) := by
  refine PT.imp (pt_truth h fun whole => ?_) fun sv H Q q => ?_
  · cases x <;> first
      | rfl
      | (rename_i o _ _; cases o <;> first | rfl | cases hp)
      | cases hp
  · obtain ⟨F, rho, σ, S, st, sl, q⟩ := q
    simp only [evT] at q
    refine ⟨F, rho, σ, S, st, sl, (Post.bind q).imp fun x H1 ⟨u, S1, F1, rho1, g1, st1, c1, q1, _⟩ => ?_⟩
    cases e : truth S1 u with
    | none => rw [e] at q1; exact q1.elim
    | some kk =>
      rw [e] at q1
      exact ⟨kk, truth_of st1 c1 e, q1 kk F1 H1 rho1 (Grow.refl _ _ _) st1 rfl⟩
theorem t_not {a : LC} {x : Expr} {p : Pos} (h : PT X x (rdT N cf X.K X.w X.mg W a)) : PT X (.UnaryOp .Not x p) (rdT N cf X.K X.w X.mg W (.not a)) := by
  refine PT.imp (pt_not h) fun sv H Q q => ?_
  obtain ⟨F, rho, σ, S, st, sl, q⟩ := q
  simp only [evT] at q
  refine ⟨F, rho, σ, S, st, sl, (Post.bind q).imp fun x H1 ⟨u, S1, F1, rho1, g1, st1, c1, q1, _⟩ => ?_⟩
  cases c1
  exact q1 _ F1 H1 rho1 (Grow.refl _ _ _) st1 rfl
theorem tand {a b : LC} {sv : L2.St} {H : Hp} {Q : Bool → Hp → Prop} (q : rdT N cf X.K X.w X.mg W (.and a b) sv H Q) : tAnd (rdT N cf X.K X.w X.mg W a) (rdT N cf X.K X.w X.mg W b) sv H Q := by
  obtain ⟨F, rho, σ, S, st, sl, q⟩ := q
  simp only [evT] at q
  refine ⟨F, rho, σ, S, st, sl, (Post.bind q).imp fun x H1 ⟨u, S1, F1, rho1, g1, st1, c1, q1, _⟩ => ?_⟩
  cases c1
  cases x with
  | true => exact ite_tt ⟨F1, rho1, σ, S1, st1, sl.grow g1, q1⟩
  | false => exact ite_ff (q1 _ F1 H1 rho1 (Grow.refl _ _ _) st1 rfl)
theorem tor {a b : LC} {sv : L2.St} {H : Hp} {Q : Bool → Hp → Prop} (q : rdT N cf X.K X.w X.mg W (.or a b) sv H Q) : tOr (rdT N cf X.K X.w X.mg W a) (rdT N cf X.K X.w X.mg W b) sv H Q := by
  obtain ⟨F, rho, σ, S, st, sl, q⟩ := q
  simp only [evT] at q
  refine ⟨F, rho, σ, S, st, sl, (Post.bind q).imp fun x H1 ⟨u, S1, F1, rho1, g1, st1, c1, q1, _⟩ => ?_⟩
  cases c1
  cases x with
  | true => exact ite_tt (q1 _ F1 H1 rho1 (Grow.refl _ _ _) st1 rfl)
  | false => exact ite_ff ⟨F1, rho1, σ, S1, st1, sl.grow g1, q1⟩
end
end Far

set_option Elab.async false
set_option linter.all false
set_option maxRecDepth 100000
set_option maxHeartbeats 4000000
/-! Expressions, further. -/
namespace Far
open PySem PySem.Spec PyProof.Rows L2
section
variable {N : Cn} {cf : CF} {k : Ck} {X : Cx} {W : WX}
theorem e_not {a : LE} {x : Expr} {p : Pos} (ha : PE X x (rdE N cf X.K X.w X.mg W a)) : PE X (.UnaryOp .Not x p) (rdE N cf X.K X.w X.mg W (.not a)) := by
  refine PE.imp (pe_notT ha) fun sv H Q q => ?_
  obtain ⟨F, rho, σ, S, st, sl, q⟩ := q
  simp only [evE] at q
  refine ⟨F, rho, σ, S, st, sl, (Post.bind q).imp fun x H1 ⟨u, S1, F1, rho1, g1, st1, c1, q1, _⟩ => ?_⟩
  cases e : truth S1 u with
  | none => rw [e] at q1; exact q1.elim
  | some kk =>
    rw [e] at q1
    exact ⟨kk, truth_of st1 c1 e, q1.val st1 (.bl _)⟩
theorem vand {a b : LE} {sv : L2.St} {H : Hp} {Q : VK} (q : rdE N cf X.K X.w X.mg W (.and a b) sv H Q) : tAndV (rdE N cf X.K X.w X.mg W a) (rdE N cf X.K X.w X.mg W b) sv H Q := by
  obtain ⟨F, rho, σ, S, st, sl, q⟩ := q
  simp only [evE] at q
  refine ⟨F, rho, σ, S, st, sl, (Post.bind q).imp fun x H1 ⟨u, S1, F1, rho1, g1, st1, c1, q1, _⟩ => ?_⟩
  cases u with
  | bl b =>
    cases c1
    refine ⟨b, rfl, ?_⟩
    cases b with
    | true => exact ite_tt ⟨F1, rho1, σ, S1, st1, sl.grow g1, q1⟩
    | false => exact ite_ff (q1.val st1 (.bl _))
  | _ => exact q1.elim
theorem vor {a b : LE} {sv : L2.St} {H : Hp} {Q : VK} (q : rdE N cf X.K X.w X.mg W (.or a b) sv H Q) : tOrV (rdE N cf X.K X.w X.mg W a) (rdE N cf X.K X.w X.mg W b) sv H Q := by
  obtain ⟨F, rho, σ, S, st, sl, q⟩ := q
  simp only [evE] at q
  refine ⟨F, rho, σ, S, st, sl, (Post.bind q).imp fun x H1 ⟨u, S1, F1, rho1, g1, st1, c1, q1, _⟩ => ?_⟩
  cases u with
  | bl b =>
    cases c1
    refine ⟨b, rfl, ?_⟩
    cases b with
    | true => exact ite_tt (q1.val st1 (.bl _))
    | false => exact ite_ff ⟨F1, rho1, σ, S1, st1, sl.grow g1, q1⟩
  | _ => exact q1.elim
theorem e_ite {t : LC} {a b : LE} {c x y : Expr} {p : Pos} (hc : PT X c (rdT N cf X.K X.w X.mg W t)) (ha : PE X x (rdE N cf X.K X.w X.mg W a)) (hb : PE X y (rdE N cf X.K X.w X.mg W b)) : PE X (.IfExp c x y p) (rdE N cf X.K X.w X.mg W (.ite t a b)) := by
  refine PE.imp (pe_ifExp hc ha hb) fun sv H Q q => ?_
  obtain ⟨F, rho, σ, S, st, sl, q⟩ := q
  simp only [evE] at q
  refine ⟨F, rho, σ, S, st, sl, (Post.bind q).imp fun x H1 ⟨u, S1, F1, rho1, g1, st1, c1, q1, _⟩ => ?_⟩
  cases c1
  cases x with
  | true => exact ite_tt ⟨F1, rho1, σ, S1, st1, sl.grow g1, q1⟩
  | false => exact ite_ff ⟨F1, rho1, σ, S1, st1, sl.grow g1, q1⟩
/-! ### lists of expressions -/
theorem star_cons {e : Expr} (h : starred e = false) (es : List Expr) (env : Env) : starEach (e :: es) env = (false, eval e env) :: starEach es env := by
  cases e <;> first | rfl | cases h
theorem es_nil : PA X [] (rdEs N cf X.K X.w X.mg W .nil) := PA.imp pa_nil fun sv H Q q => by
  obtain ⟨F, rho, σ, S, st, sl, q⟩ := q
  exact q [] F H rho (Grow.refl _ _ _) st .nil
theorem es_cons {e : LE} {es : LEs} {x : Expr} {xs : List Expr} (hs : starred x = false) (h : PE X x (rdE N cf X.K X.w X.mg W e)) (hr : PA X xs (rdEs N cf X.K X.w X.mg W es)) : PA X (x :: xs) (rdEs N cf X.K X.w X.mg W (.cons e es)) := by
  refine PA.imp (pa_cons h hr (star_cons hs _ _)) fun sv H Q q => ?_
  obtain ⟨F, rho, σ, S, st, sl, q⟩ := q
  simp only [evEs] at q
  refine ⟨F, rho, σ, S, st, sl, (Post.bind q).imp fun x H1 ⟨u, S1, F1, rho1, g1, st1, c1, q1, _⟩ => ?_⟩
  refine ⟨F1, rho1, σ, S1, st1, sl.grow g1, (Post.bind q1).imp fun y H2 ⟨us, S2, F2, rho2, g2, st2, c2, q2, _⟩ => ?_⟩
  exact q2 _ F2 H2 rho2 (Grow.refl _ _ _) st2 (.cons (c1.mono g2.fex g2.rex) c2)
theorem any_star : ∀ {es : LEs} {xs : List Expr}, chkEs k es xs = true → ∀ (pos : Pos) (env : Env), (backTo pos (starEach xs env)).any (·.1) = false
  | .nil, [], _, pos, env => rfl
  | .nil, _ :: _, h, _, _ => by cases h
  | .cons e es, [], h, _, _ => by cases h
  | .cons e es, x :: xs, h, pos, env => by
    unfold chkEs at h
    obtain ⟨h1, h2⟩ := ba h
    obtain ⟨_, h3⟩ := ba h2
    rw [star_cons (by simpa using h1)]
    show (false || (backTo pos (starEach xs env)).any (·.1)) = false
    rw [any_star h3]
    rfl
theorem e_tup {es : LEs} {xs : List Expr} {n : Nat} {p : Pos} (h : PA X xs (rdEs N cf X.K X.w X.mg W es)) : PE X (.Tuple xs n p) (rdE N cf X.K X.w X.mg W (.tup es)) := by
  refine PE.imp (pe_tup h) fun sv H Q q => ?_
  obtain ⟨F, rho, σ, S, st, sl, q⟩ := q
  simp only [evE] at q
  refine ⟨F, rho, σ, S, st, sl, (Post.bind q).imp fun x H1 ⟨u, S1, F1, rho1, g1, st1, c1, q1, _⟩ => ?_⟩
  split at q1
  · rename_i hl
    refine ⟨by rw [← c1.length]; exact big_line hl, fun p n => ?_⟩
    have pp : PP X.K X.w F1 H1 rho1 (.val (.tup u)) Q := fun v F' H' g kk s c => q1 v F' H' rho1 g (st1.more g s kk) c
    exact pp.newT st1 c1 n
  · exact q1.elim
theorem e_lst {es : LEs} {xs : List Expr} {p : Pos} (h : PA X xs (rdEs N cf X.K X.w X.mg W es)) : PE X (.List xs p) (rdE N cf X.K X.w X.mg W (.lst es)) := by
  refine PE.imp (pe_lst h) fun sv H Q q => ?_
  obtain ⟨F, rho, σ, S, st, sl, q⟩ := q
  simp only [evE] at q
  refine ⟨F, rho, σ, S, st, sl, (Post.bind q).imp fun x H1 ⟨u, S1, F1, rho1, g1, st1, c1, q1, _⟩ => ?_⟩
  split at q1
  · rename_i hl
    refine ⟨by rw [← c1.length]; exact big_line hl, fun p n => ?_⟩
    have pp : PP X.K X.w F1 H1 rho1 (.newL u) Q := PP.get st1 fun v F' H' g kk s c => q1 v F' H' rho1 g (st1.more g s kk) c
    exact pp p x n c1
  · exact q1.elim
/-- a thing comes into the store -/
theorem St.push {K : PySem.W.Frag} {w : World} {F H : Hp} {rho : List Addr} {S : Sto} {p : Addr} {o : SO} {ho : HO} (st : St K w F H rho S) (n : H p = none) (ok : SOk K w F rho o ho) : Grow F H rho F (upd H p ho) (rho ++ [p]) ∧ St K w F (upd H p ho) (rho ++ [p]) (S ++ [o]) := by
  have nr : p ∉ rho := fun z => by
    obtain ⟨_, x, e⟩ := st.mem z
    rw [n] at e
    cases e
  refine ⟨⟨Same.refl _, fun _ _ h => .inl h, ⟨[p], rfl⟩, fun a h => ?_, fun a u e _ => by rw [upd_ne (ne_of_none e n)]; exact e, fun a e => ?_⟩, ⟨same_upd (st.sub.free n) st.sub, by simp [st.len], ?_, fun m a q e1 e2 => ?_⟩⟩
  · rcases List.mem_append.mp h with h | h
    · exact .inl h
    · have : a = p := by simpa using h
      subst this
      exact .inr n
  · by_cases z : a = p
    · subst z; exact n
    · rw [upd_ne z] at e; exact e
  · rw [List.nodup_append]
    refine ⟨st.nd, by simp, fun a ha b hb e => ?_⟩
    have : b = p := by simpa using hb
    subst this
    subst e
    exact nr ha
  · have pr : Pre rho (rho ++ [p]) := ⟨[p], rfl⟩
    by_cases hm : m < rho.length
    · rw [List.getElem?_append_left hm] at e1
      rw [List.getElem?_append_left (by rw [← st.len]; exact hm)] at e2
      obtain ⟨f, x, e3, e4⟩ := st.sto m a q e1 e2
      exact ⟨f, x, by rw [upd_ne (ne_of_none e3 n)]; exact e3, e4.mono (Same.refl _) pr⟩
    · have hm2 : m = rho.length := by
        have := (List.getElem?_eq_some_iff.mp e1).1
        simp at this
        omega
      subst hm2
      simp at e1
      rw [st.len] at e2
      simp at e2
      subst e1
      subst e2
      exact ⟨st.sub.free n, ho, upd_same, ok.mono (Same.refl _) pr⟩
theorem e_sto {es : LEs} {xs : List Expr} {p : Pos} (h : PA X xs (rdEs N cf X.K X.w X.mg W es)) : PE X (.List xs p) (rdE N cf X.K X.w X.mg W (.sto es)) := by
  refine PE.imp (pe_lst h) fun sv H Q q => ?_
  obtain ⟨F, rho, σ, S, st, sl, q⟩ := q
  simp only [evE] at q
  refine ⟨F, rho, σ, S, st, sl, (Post.bind q).imp fun x H1 ⟨u, S1, F1, rho1, g1, st1, c1, q1, _⟩ => ?_⟩
  split at q1
  · rename_i hl
    refine ⟨by rw [← c1.length]; exact big_line hl, fun p n => ?_⟩
    obtain ⟨g, st2⟩ := st1.push (o := .lst u) (ho := .lst x) n ⟨x, rfl, c1⟩
    exact q1 _ F1 _ _ g st2 (.ref (by rw [← st1.len]; simp))
  · exact q1.elim
theorem e_sub (ok : XOk N cf k X W) {a i : LE} {x y : Expr} {p : Pos} (hs : sliced y = false) (ha : PE X x (rdB N cf X.K X.w X.mg W a)) (hi : PE X y (rdE N cf X.K X.w X.mg W i)) : PE X (.Subscript x y p) (rdE N cf X.K X.w X.mg W (.sub a i)) := by
  have hr := ok.room
  refine PE.imp (pe_ix (ix_item (by omega)) ha hi fun o i => by cases y <;> first | rfl | cases hs) fun sv H Q q => ?_
  obtain ⟨F, rho, σ, S, st, sl, q⟩ := q
  simp only [evE] at q
  refine ⟨F, rho, σ, S, st, sl, (Post.bind q).imp fun x H1 ⟨u, S1, F1, rho1, g1, st1, c1, q1, _⟩ => ?_⟩
  refine ⟨F1, rho1, σ, S1, st1, sl.grow g1, (Post.bind q1).imp fun y H2 ⟨u2, S2, F2, rho2, g2, st2, c2, q2, _⟩ => ?_⟩
  obtain ⟨z, e, pp⟩ := q2.item st2
  exact ⟨F2, rho2, S2, u, u2, z, st2, CVb.grow g2 c1, .of c2, e, pp⟩
theorem o_non : PO X none (rdO N cf X.K X.w X.mg W .non) := PO.imp po_none fun sv H Q q => by
  obtain ⟨F, rho, σ, S, st, sl, q⟩ := q
  exact q none F H rho (Grow.refl _ _ _) st rfl
theorem o_som {e : LE} {x : Expr} (h : PE X x (rdE N cf X.K X.w X.mg W e)) : PO X (some x) (rdO N cf X.K X.w X.mg W (.som e)) := PO.imp (po_some h) fun sv H Q q => by
  obtain ⟨F, rho, σ, S, st, sl, q⟩ := q
  simp only [evO] at q
  refine ⟨F, rho, σ, S, st, sl, (Post.bind q).imp fun x H1 ⟨u, S1, F1, rho1, g1, st1, c1, q1, _⟩ => ?_⟩
  cases u with
  | int i => cases c1; exact ⟨i, rfl, q1 _ F1 H1 rho1 (Grow.refl _ _ _) st1 rfl⟩
  | _ => exact q1.elim
theorem e_slc {a : LE} {lo hi : LO} {x : Expr} {l h : Option Expr} {p p2 : Pos} (ha : PE X x (rdB N cf X.K X.w X.mg W a)) (hl : PO X l (rdO N cf X.K X.w X.mg W lo)) (hh : PO X h (rdO N cf X.K X.w X.mg W hi)) :
    PE X (.Subscript x (.Slice l h none p2) p) (rdE N cf X.K X.w X.mg W (.slc a lo hi)) := by
  refine PE.imp (pe_slice sl_cut ha hl hh) fun sv H Q q => ?_
  obtain ⟨F, rho, σ, S, st, sl, q⟩ := q
  simp only [evE] at q
  refine ⟨F, rho, σ, S, st, sl, (Post.bind q).imp fun x H1 ⟨u, S1, F1, rho1, g1, st1, c1, q1, _⟩ => ?_⟩
  refine ⟨F1, rho1, σ, S1, st1, sl.grow g1, (Post.bind q1).imp fun y H2 ⟨u2, S2, F2, rho2, g2, st2, c2, q2, _⟩ => ?_⟩
  refine ⟨F2, rho2, σ, S2, st2, (sl.grow g1).grow g2, (Post.bind q2).imp fun z H3 ⟨u3, S3, F3, rho3, g3, st3, c3, q3, _⟩ => ?_⟩
  cases c2
  cases c3
  obtain ⟨pr, e, pp⟩ := q3.pp st3
  exact ⟨F3, rho3, S3, u, pr, st3, CVb.grow g3 (CVb.grow g2 c1), e, pp⟩
/-- one argument that is only looked at -/
theorem es_one {e : LE} {x : Expr} (hs : starred x = false) (h : PE X x (rdB N cf X.K X.w X.mg W e)) : PA X [x] (tCons (rdB N cf X.K X.w X.mg W e) tNil) := pa_cons h pa_nil (star_cons hs _ _)
theorem e_fn (ok : XOk N cf k X W) {f : Fn} {e : LE} {x : Str} {y : Expr} {p p2 : Pos} (hx : x = fnName f) (hg : glB k.sc x = true) (hs : starred y = false) (h : PE X y (rdB N cf X.K X.w X.mg W e)) : PE X (.Call (.Name x p) [y] [] p2) (rdE N cf X.K X.w X.mg W (.fn f e)) := by
  subst hx
  obtain ⟨g1, g2, g3⟩ := ok.gl hg
  have key : ∀ sv H (Q : VK), rdE N cf X.K X.w X.mg W (.fn f e) sv H Q → tCB (rFn X.K X.w f) (tCons (rdB N cf X.K X.w X.mg W e) tNil) sv H Q := fun sv H Q q => by
    obtain ⟨F, rho, σ, S, st, sl, q⟩ := q
    simp only [evE] at q
    refine ⟨F, rho, σ, S, st, sl, (Post.bind q).imp fun x H1 ⟨u, S1, F1, rho1, g1, st1, c1, q1, _⟩ => ?_⟩
    obtain ⟨pr, e, pp⟩ := q1.pp st1
    exact ⟨F1, rho1, S1, u, x, pr, rfl, st1, c1, e, pp⟩
  have hse := star_cons hs ([] : List Expr) X.env
  cases f with
  | len => exact PE.imp (pe_callB (cr_fn ok.calm .len) g1 (ok.free _ (by decide +kernel)) (by decide +kernel) (es_one hs h) g3 g2 hse rfl) key
  | all => exact PE.imp (pe_callB (cr_fn ok.calm .all) g1 (ok.free _ (by decide +kernel)) (by decide +kernel) (es_one hs h) g3 g2 hse rfl) key
  | any => exact PE.imp (pe_callB (cr_fn ok.calm .any) g1 (ok.free _ (by decide +kernel)) (by decide +kernel) (es_one hs h) g3 g2 hse rfl) key
  | abs => exact PE.imp (pe_callB (cr_fn ok.calm .abs) g1 (ok.free _ (by decide +kernel)) (by decide +kernel) (es_one hs h) g3 g2 hse rfl) key
  | tuple => exact PE.imp (pe_callTy (cr_fn ok.calm .tuple) g1 (ok.free _ (by decide +kernel)) (by decide +kernel) (es_one hs h) g3 g2 hse rfl) key
  | str => exact PE.imp (pe_callTy (cr_fn ok.calm .str) g1 (ok.free _ (by decide +kernel)) (by decide +kernel) (es_one hs h) g3 g2 hse rfl) key
  | int => exact PE.imp (pe_callTy (cr_fn ok.calm .int) g1 (ok.free _ (by decide +kernel)) (by decide +kernel) (es_one hs h) g3 g2 hse rfl) key
  | min => exact PE.imp (pe_callB (cr_fn ok.calm .min) g1 (ok.free _ (by decide +kernel)) (by decide +kernel) (es_one hs h) g3 g2 hse rfl) key
  | list => exact PE.imp (pe_callTy (cr_fn ok.calm .list) g1 (ok.free _ (by decide +kernel)) (by decide +kernel) (es_one hs h) g3 g2 hse rfl) key
end
end Far

set_option Elab.async false
set_option linter.all false
set_option maxRecDepth 100000
set_option maxHeartbeats 4000000
/-! Expressions: isinstance, dicts, calls, comprehensions; all of them. -/
namespace Far
open PySem PySem.Spec PyProof.Rows L2
section
variable {N : Cn} {cf : CF} {k : Ck} {X : Cx} {W : WX}
theorem boot_ty (t : Ty) : bootBuiltins (tyName t) = some (.type (tyStr t)) := by cases t <;> decide +kernel
theorem ty_blt (t : Ty) : tyName t ∈ bltNames := by cases t <;> decide +kernel
theorem e_ty (ok : XOk N cf k X W) {t : Ty} {z : Str} {p : Pos} (hz : z = tyName t) (hg : glB k.sc z = true) : PE X (.Name z p) (tC (.ty (tyStr t))) := by
  subst hz
  obtain ⟨g1, g2, g3⟩ := ok.gl hg
  exact pe_bltn g1 (ok.free _ (ty_blt t)) (boot_ty t) rfl g3 g2
theorem e_isi (ok : XOk N cf k X W) {a : LE} {t : Ty} {x z : Str} {y : Expr} {p p2 p3 : Pos} (hx : x = "isinstance") (hg : glB k.sc x = true) (hs : starred y = false) (hz : z = tyName t) (hgz : glB k.sc z = true) (h : PE X y (rdE N cf X.K X.w X.mg W a)) :
    PE X (.Call (.Name x p) [y, .Name z p2] [] p3) (rdE N cf X.K X.w X.mg W (.isi a t)) := by
  subst hx
  obtain ⟨g1, g2, g3⟩ := ok.gl hg
  refine PE.imp (pe_callB call_isi g1 (ok.free _ (by decide +kernel)) (by decide +kernel) (pa_cons h (pa_cons (e_ty ok hz hgz) pa_nil) (star_cons hs _ _)) g3 g2 (star_cons hs _ _) rfl) fun sv H Q q => ?_
  obtain ⟨F, rho, σ, S, st, sl, q⟩ := q
  simp only [evE] at q
  refine ⟨F, rho, σ, S, st, sl, (Post.bind q).imp fun x H1 ⟨u, S1, F1, rho1, g1, st1, c1, q1, _⟩ => ?_⟩
  obtain ⟨kk, e, pp⟩ := q1.bool st1
  obtain ⟨n, e1, e2⟩ := tyIs_kit e
  exact ⟨x, _, _, _, kk, rfl, .ty _, tyx_of st1.sub c1 e1, kit_ty e2, pp⟩
def tTys (ts : List Ty) : TA := fun _ H Q => Q (ts.map fun t => V.ty (tyStr t)) H
theorem a_tys (ok : XOk N cf k X W) : ∀ {ts : List Ty} {zs : List Expr}, tysOk k.sc ts zs = true → PA X zs (tTys ts)
  | [], [], _ => pa_nil
  | [], _ :: _, h => by cases h
  | t :: ts, [], h => by cases h
  | t :: ts, z :: zs, h => by
    cases z with
    | Name x p =>
      unfold tysOk at h
      obtain ⟨h1, h2⟩ := ba h
      obtain ⟨h3, h4⟩ := ba h2
      exact PA.imp (pa_cons (e_ty ok (by simpa using h1) h3) (a_tys ok h4)) fun sv H Q q => q
    | _ => cases h
theorem kit_any {K : PySem.W.Frag} {u : U} {n : String} (hn : ofU u = some n) : ∀ {ts : List Ty} {b : Bool}, tyAny ts u = some b → PySem.W.kitAny K (.type n) (ts.map fun t => Value.type (tyStr t)) = some b
  | [], b, e => by
    simp only [tyAny, Option.some.injEq] at e
    subst e
    rfl
  | t :: ts, b, e => by
    simp only [tyAny, Option.bind_eq_some_iff] at e
    obtain ⟨b1, e1, e2⟩ := e
    obtain ⟨n', e3, e4⟩ := tyIs_kit e1
    rw [hn] at e3
    cases e3
    refine kitAny_cons (kit_ty e4) (fun z => ?_) (fun z => ?_)
    · subst z
      exact kit_any hn (by simpa using e2)
    · subst z
      simpa using e2.symm
theorem tyAny_of {ts : List Ty} {u : U} {b : Bool} (h : ts ≠ []) (e : tyAny ts u = some b) : ∃ n, ofU u = some n := by
  cases ts with
  | nil => exact absurd rfl h
  | cons t ts =>
    simp only [tyAny, Option.bind_eq_some_iff] at e
    obtain ⟨b1, e1, e2⟩ := e
    obtain ⟨n', e3, e4⟩ := tyIs_kit e1
    exact ⟨n', e3⟩
theorem cls_tys : ∀ (ts : List Ty), Paired ClsV (ts.map fun t => V.ty (tyStr t)) (ts.map fun t => Value.type (tyStr t))
  | [] => .nil
  | t :: ts => .cons (.ty _) (cls_tys ts)
theorem e_isiT (ok : XOk N cf k X W) {a : LE} {ts : List Ty} {x : Str} {y : Expr} {zs : List Expr} {n : Nat} {p p2 p3 : Pos} (hx : x = "isinstance") (hg : glB k.sc x = true) (hs : starred y = false) (hz : tysOk k.sc ts zs = true) (h : PE X y (rdE N cf X.K X.w X.mg W a)) :
    PE X (.Call (.Name x p) [y, .Tuple zs n p2] [] p3) (rdE N cf X.K X.w X.mg W (.isiT a ts)) := by
  subst hx
  obtain ⟨g1, g2, g3⟩ := ok.gl hg
  refine PE.imp (pe_callB call_isiT g1 (ok.free _ (by decide +kernel)) (by decide +kernel) (pa_cons h (pa_cons (pe_tup (a_tys ok hz)) pa_nil) (star_cons hs _ _)) g3 g2 (star_cons hs _ _) rfl) fun sv H Q q => ?_
  obtain ⟨F, rho, σ, S, st, sl, q⟩ := q
  simp only [evE] at q
  refine ⟨F, rho, σ, S, st, sl, (Post.bind q).imp fun x H1 ⟨u, S1, F1, rho1, g1, st1, c1, q1, _⟩ => ?_⟩
  have hn : ts ≠ [] ∧ ts.length ≤ 100 := by
    constructor
    · intro z
      rw [if_neg (by simp [z])] at q1
      exact q1.elim
    · by_cases z : ts.length ≤ 100
      · exact z
      · rw [if_neg (by simp [z])] at q1
        exact q1.elim
  rw [if_pos (by simp [hn.1, hn.2])] at q1
  refine ⟨by rw [List.length_map]; exact Nat.le_trans hn.2 (by decide), fun p np => ?_⟩
  cases e : tyAny ts u with
  | none => rw [e] at q1; exact q1.elim
  | some kk =>
    rw [e] at q1
    obtain ⟨n, e1⟩ := tyAny_of hn.1 e
    have nf := st1.sub.free np
    have s2 : Same (upd F1 p (.tup (ts.map fun t => V.ty (tyStr t)))) (upd H1 p (.tup (ts.map fun t => V.ty (tyStr t)))) := fun a o e => by
      by_cases z : a = p
      · subst z; rw [upd_same] at e ⊢; exact e
      · rw [upd_ne z] at e ⊢; exact st1.sub _ _ e
    have g := Grow.new (rho := rho1) (o := .tup (ts.map fun t => V.ty (tyStr t))) st1.sub np
    refine ⟨x, p, _, _, _, kk, rfl, upd_same, cls_tys ts, tyx_of (st1.sub.trans (same_upd np (Same.refl _))) c1 e1, kit_any e1 e, ?_⟩
    exact q1 _ _ _ rho1 g (st1.more g s2 (same_upd np (Same.refl _))) (.bl _)
theorem e_call (ok : XOk N cf k X W) {f x : Str} {es : LEs} {ys : List Expr} {p p2 : Pos} (hx : x = f) (hg : glB k.sc x = true) (hne : ys ≠ []) (hc : chkEs k es ys = true) (h : PA X ys (rdEs N cf X.K X.w X.mg W es)) :
    PE X (.Call (.Name x p) ys [] p2) (rdE N cf X.K X.w X.mg W (.call f es)) := by
  subst hx
  obtain ⟨g1, g2, g3⟩ := ok.gl hg
  cases hh : N.has x with
  | false =>
    refine ⟨fun pins s σ H Q I q => ?_⟩
    obtain ⟨F, rho, σ, S, st, sl, q⟩ := q
    simp only [evE, hh] at q
    exact q.elim
  | true =>
    obtain ⟨n, room, calls⟩ := ok.calls
    obtain ⟨a, fd, ps, m, kp, fn, b, len⟩ := calls x hh
    cases ys with
    | nil => exact absurd rfl hne
    | cons y ys =>
      have hst : starEach (y :: ys) X.env = (false, eval y X.env) :: starEach ys X.env := by
        cases es with
        | nil => cases hc
        | cons e es =>
          unfold chkEs at hc
          exact star_cons (by simpa using (ba hc).1) _ _
      have hpl : (backTo p2 (starEach ys X.env)).any (·.1) = false := by
        cases es with
        | nil => cases hc
        | cons e es =>
          unfold chkEs at hc
          exact any_star (ba (ba hc).2).2 _ _
      refine PE.imp (pe_callS fn room g1 m kp b (fun σ => passAt ok.takes σ) h g2 hst hpl) fun sv H Q q => ?_
      obtain ⟨F, rho, σ, S, st, sl, q⟩ := q
      simp only [evE, hh, if_true] at q
      refine ⟨F, rho, σ, S, st, sl, (Post.bind q).imp fun vs H1 ⟨us, S1, F1, rho1, g1, st1, c1, q1, _⟩ => ?_⟩
      refine ⟨F1, rho1, S1, us, st1, c1, ?_, q1⟩
      rw [← c1.length]
      refine len us S1 fun z => ?_
      rw [z] at q1
      exact q1.elim

/-! ### targets -/
theorem set_slots {K : PySem.W.Frag} {w : World} {F H : Hp} {rho : List Addr} {σ : Slots} {sv : L2.St} {i : Nat} {u : U} {v : V} (sl : SlotsOk K w F H rho σ sv) (c : CV K w F rho u v) : SlotsOk K w F H rho (σ.set i (.val u)) (sv.set i (some v)) where
  len := by rw [List.length_set, List.length_set, sl.len]
  at_ := fun j s e => by
    by_cases z : i = j
    · subst z
      have hi : i < σ.length := by
        have := (List.getElem?_eq_some_iff.mp e).1
        simpa using this
      rw [List.getElem?_set_self hi] at e
      cases e
      exact ⟨some v, by rw [List.getElem?_set_self (by rw [← sl.len]; exact hi)], v, rfl, c⟩
    · rw [List.getElem?_set_ne z] at e ⊢
      exact sl.at_ j s e
  apart := fun j l us ws p e1 e2 e3 e4 => by
    have a1 : i ≠ j := fun z => by
      subst z
      have hi : i < σ.length := by
        have := (List.getElem?_eq_some_iff.mp e1).1
        simpa using this
      rw [List.getElem?_set_self hi] at e1
      cases e1
    have a2 : i ≠ l := fun z => by
      subst z
      have hi : i < σ.length := by
        have := (List.getElem?_eq_some_iff.mp e2).1
        simpa using this
      rw [List.getElem?_set_self hi] at e2
      cases e2
    rw [List.getElem?_set_ne a1] at e1 e3
    rw [List.getElem?_set_ne a2] at e2 e4
    exact sl.apart j l us ws p e1 e2 e3 e4
/-- two slot lists that part at some slots alone -/
def But (is : List Nat) (sv sv' : L2.St) : Prop := sv'.length = sv.length ∧ ∀ i, i ∉ is → sv'[i]? = sv[i]?
theorem But.refl (is : List Nat) (sv : L2.St) : But is sv sv := ⟨rfl, fun _ _ => rfl⟩
theorem But.trans {is js : List Nat} {a b c : L2.St} (h : But is a b) (h' : But js b c) : But (is ++ js) a c := ⟨h'.1.trans h.1, fun i n => (h'.2 i fun z => n (List.mem_append_right _ z)).trans (h.2 i fun z => n (List.mem_append_left _ z))⟩
theorem But.set (i : Nat) (sv : L2.St) (o : Option V) : But [i] sv (sv.set i o) := ⟨by simp, fun j n => List.getElem?_set_ne fun z => n (by simp [z])⟩
/-- a target's reading -/
def rdG (K : PySem.W.Frag) (w : World) (t : LT) : TG := fun v sv H Q => ∃ F rho S σ u σ', St K w F H rho S ∧ SlotsOk K w F H rho σ sv ∧ CV K w F rho u v ∧ assign t u σ = some σ' ∧
  ∀ F' H' sv', Grow F H rho F' H' rho → Same H H' → St K w F' H' rho S → SlotsOk K w F' H' rho σ' sv' → But t.slots sv sv' → Q sv' H'
def rdGs (K : PySem.W.Frag) (w : World) (ts : List LT) : TGs := fun vs sv H Q => ∃ F rho S σ us σ', St K w F H rho S ∧ SlotsOk K w F H rho σ sv ∧ CVs K w F rho us vs ∧ assign.assigns ts us σ = some σ' ∧
  ∀ F' H' sv', Grow F H rho F' H' rho → Same H H' → St K w F' H' rho S → SlotsOk K w F' H' rho σ' sv' → But (LT.slotss ts) sv sv' → Q sv' H'
theorem PG.imp {X : Cx} {e : Expr} {t t' : TG} (h : PG X e t) (q : ∀ v sv H Q, t' v sv H Q → t v sv H Q) : PG X e t' := ⟨fun pins s σ H v u Q I r z => h.run pins s σ H v u Q I r (q _ _ _ _ z)⟩
theorem PGs.imp {X : Cx} {e : List Expr} {t t' : TGs} (h : PGs X e t) (q : ∀ v sv H Q, t' v sv H Q → t v sv H Q) : PGs X e t' := ⟨fun pins s σ H v u Q I r z => h.run pins s σ H v u Q I r (q _ _ _ _ z)⟩
theorem XOk.sto (o : XOk N cf k X W) {i : Nat} {x : Str} (h : k.sto i x = true) : X.N[i]? = some x ∧ Loc X.env.scope x ∧ (X.fn x = true ∨ X.env.scope.names.lookup x = some .local) := by
  unfold Ck.sto at h
  obtain ⟨h1, h2⟩ := ba h
  rw [o.ns, o.sc]
  simp only [Bool.or_eq_true, Bool.and_eq_true, beq_iff_eq] at h2
  rcases h2 with h2 | ⟨h2, h3⟩
  · exact ⟨by simpa using h1, .inl h2, .inr h2⟩
  · exact ⟨by simpa using h1, .inr h2, .inl (o.fn x h3)⟩
theorem g_nm (o : XOk N cf k X W) {i : Nat} {x : Str} {p : Pos} (h : k.sto i x = true) : PG X (.Name x p) (gName i) := by
  obtain ⟨h1, h2, h3⟩ := o.sto h
  exact pg_name o.nd h1 h2 h3
theorem each_cons {e : Expr} (h : starred e = false) (es : List Expr) (env : Env) : assignEach (e :: es) env = (false, PySem.assign e env) :: assignEach es env := by
  cases e <;> first | rfl | cases h
theorem each_plain : ∀ {ts : List LT} {es : List Expr}, chkTs k ts es = true → ∀ (env : Env), (assignEach es env).length = ts.length ∧ (assignEach es env).findIdx? (·.1) = none ∧ es.length = ts.length
  | [], [], _, env => ⟨rfl, rfl, rfl⟩
  | [], _ :: _, h, env => by unfold chkTs at h; cases h
  | t :: ts, [], h, env => by unfold chkTs at h; cases h
  | t :: ts, e :: es, h, env => by
    unfold chkTs at h
    obtain ⟨h1, h2⟩ := ba h
    obtain ⟨h3, h4⟩ := ba h2
    obtain ⟨i1, i2, i3⟩ := each_plain h4 env
    rw [each_cons (by simpa using h3)]
    refine ⟨by simp [i1], ?_, by simp [i3]⟩
    rw [List.findIdx?_cons]
    simp [i2]
theorem setAll_len : ∀ (is : List Nat) (us : List U) (σ : Slots), (assign.setAll is us σ).length = σ.length
  | [], us, σ => by unfold assign.setAll; rfl
  | i :: is, [], σ => by unfold assign.setAll; rfl
  | i :: is, u :: us, σ => by
    unfold assign.setAll
    rw [setAll_len is us, List.length_set]
def gNames : List Nat → TGs
  | [] => gNil
  | i :: is => gCons (gName i) (gNames is)
/-- names stored one behind another -/
def setV : List Nat → List V → L2.St → L2.St
  | i :: is, v :: vs, sv => setV is vs (sv.set i (some v))
  | _, _, sv => sv
theorem gNames_of : ∀ {is : List Nat} {vs : List V} {sv : L2.St} {H : Hp} {Q : L2.St → Hp → Prop}, is.length = vs.length → Q (setV is vs sv) H → gNames is vs sv H Q
  | [], [], sv, H, Q, _, q => ⟨rfl, q⟩
  | [], _ :: _, _, _, _, l, _ => by cases l
  | _ :: _, [], _, _, _, l, _ => by cases l
  | i :: is, v :: vs, sv, H, Q, l, q => ⟨v, vs, rfl, gNames_of (by simpa using l) q⟩
theorem setAll_ok {K : PySem.W.Frag} {w : World} {F H : Hp} {rho : List Addr} : ∀ {is : List Nat} {us : List U} {vs : List V} {σ : Slots} {sv : L2.St}, CVs K w F rho us vs → SlotsOk K w F H rho σ sv → SlotsOk K w F H rho (assign.setAll is us σ) (setV is vs sv)
  | [], _, _, σ, sv, _, sl => by unfold assign.setAll setV; exact sl
  | i :: is, _, _, σ, sv, .nil, sl => by unfold assign.setAll setV; exact sl
  | i :: is, _, _, σ, sv, .cons c cs, sl => by
    unfold assign.setAll setV
    exact setAll_ok cs (set_slots sl c)
theorem setV_but : ∀ (is : List Nat) (vs : List V) (sv : L2.St), But is sv (setV is vs sv)
  | [], vs, sv => by unfold setV; exact But.refl _ _
  | i :: is, [], sv => by unfold setV; exact But.refl _ _
  | i :: is, v :: vs, sv => by
    unfold setV
    have := (But.set i sv (some v)).trans (setV_but is vs (sv.set i (some v)))
    exact this
theorem setV_append : ∀ (is : List Nat) (j : Nat) (vs : List V) (v : V) (sv : L2.St), is.length = vs.length → setV (is ++ [j]) (vs ++ [v]) sv = (setV is vs sv).set j (some v)
  | [], j, [], v, sv, _ => rfl
  | [], j, _ :: _, v, sv, l => by cases l
  | i :: is, j, [], v, sv, l => by cases l
  | i :: is, j, x :: vs, v, sv, l => by
    show setV (is ++ [j]) (vs ++ [v]) (sv.set i (some x)) = _
    rw [setV_append is j vs v _ (by simpa using l)]
    rfl
theorem setAll_take : ∀ (is : List Nat) (us : List U) (σ : Slots), assign.setAll is us σ = assign.setAll is (us.take is.length) σ
  | [], us, σ => by simp [assign.setAll]
  | i :: is, [], σ => by simp [assign.setAll]
  | i :: is, u :: us, σ => by
    simp only [assign.setAll, List.length_cons, List.take_succ_cons]
    exact setAll_take is us _
theorem assigns_len : ∀ {ts : List LT} {us : List U} {σ σ' : Slots}, assign.assigns ts us σ = some σ' → us.length = ts.length
  | [], [], _, _, _ => rfl
  | [], _ :: _, _, _, e => by unfold assign.assigns at e; cases e
  | _ :: _, [], _, _, e => by unfold assign.assigns at e; cases e
  | t :: ts, u :: us, σ, σ', e => by
    unfold assign.assigns at e
    simp only [Option.bind_eq_some_iff] at e
    obtain ⟨σ1, _, e2⟩ := e
    simp [assigns_len e2]
theorem chkSt_nil {j : Nat} {es : List Expr} (h : chkSt k [] j es = true) : ∃ x p p2, es = [.Starred (.Name x p) p2] ∧ k.sto j x = true := by
  unfold chkSt at h
  split at h
  all_goals first | exact ⟨_, _, _, rfl, h⟩ | contradiction | cases h
theorem chkSt_cons {i j : Nat} {is : List Nat} {es : List Expr} (h : chkSt k (i :: is) j es = true) : ∃ x p r, es = .Name x p :: r ∧ k.sto i x = true ∧ chkSt k is j r = true := by
  cases es with
  | nil => unfold chkSt at h; cases h
  | cons e r =>
    cases e with
    | Name x p =>
      unfold chkSt at h
      exact ⟨x, p, r, rfl, (ba h).1, (ba h).2⟩
    | _ => unfold chkSt at h; cases h
theorem st_names (o : XOk N cf k X W) : ∀ {is : List Nat} {j : Nat} {es : List Expr}, chkSt k is j es = true → ∃ fs, PGs X fs (gNames (is ++ [j])) ∧ (assignEach es X.env).length = is.length + 1 ∧ (assignEach es X.env).findIdx? (·.1) = some is.length ∧ (assignEach es X.env).map (·.2) = (assignEach fs X.env).map (·.2)
  | [], j, es, h => by
    obtain ⟨x, p, p2, rfl, h1⟩ := chkSt_nil h
    exact ⟨[.Name x p], pgs_cons (g_nm o h1) pgs_nil, rfl, rfl, rfl⟩
  | i :: is, j, es, h => by
    obtain ⟨x, p, es', rfl, h1, h2⟩ := chkSt_cons h
    obtain ⟨fs, g, l, f, m⟩ := st_names o h2
    refine ⟨.Name x p :: fs, pgs_cons (g_nm o h1) g, ?_, ?_, ?_⟩
    · show (assignEach es' X.env).length + 1 = _
      rw [l]
      rfl
    · show List.findIdx? (·.1) ((false, PySem.assign (.Name x p) X.env) :: assignEach es' X.env) = _
      rw [List.findIdx?_cons, f]
      simp
    · show _ :: (assignEach es' X.env).map (·.2) = _ :: (assignEach fs X.env).map (·.2)
      rw [m]
/-- what a tuple or list is walked as -/
theorem seq_view {K : PySem.W.Frag} {w : World} {F H : Hp} {rho : List Addr} {S : Sto} {us : List U} {v : V} (st : St K w F H rho S) (h : CV K w F rho (.tup us) v ∨ CV K w F rho (.lst us) v) : ∃ a vs, v = .ref a ∧ (SqT K H a vs ∨ SqL K H a vs) ∧ CVs K w F rho us vs := by
  rcases h with h | h
  · cases h with
    | tup q c => exact ⟨_, _, rfl, .inl (same_t st.sub q), c⟩
  · cases h with
    | lst q c => exact ⟨_, _, rfl, .inr (SqL.of (st.sub _ _ q)), c⟩
theorem g_st (o : XOk N cf k X W) {is : List Nat} {j : Nat} {es : List Expr} {n : Nat} {p : Pos} (h : chkSt k is j es = true) : PG X (.Tuple es n p) (rdG X.K X.w (.st is j)) := by
  obtain ⟨fs, g, l, f, m⟩ := st_names o h
  refine PG.imp (pg_star o.calm g l f m) fun v sv H Q q => ?_
  obtain ⟨F, rho, S, σ, u, σ', st, sl, c, e, q⟩ := q
  have hu : ∃ us, (CV X.K X.w F rho (.tup us) v ∨ CV X.K X.w F rho (.lst us) v) ∧ is.length ≤ us.length ∧ σ' = (assign.setAll is us σ).set j (.val (.lst (us.drop is.length))) := by
    unfold assign at e
    cases u with
    | tup us =>
      simp only at e
      split at e
      · rename_i hl; cases e; exact ⟨us, .inl c, hl, rfl⟩
      · cases e
    | lst us =>
      simp only at e
      split at e
      · rename_i hl; cases e; exact ⟨us, .inr c, hl, rfl⟩
      · cases e
    | _ => cases e
  obtain ⟨us, cc, hl, rfl⟩ := hu
  obtain ⟨a, vs, rfl, hq, cs⟩ := seq_view st cc
  have hlen := cs.length
  refine ⟨a, vs, rfl, hq, by omega, fun p np => ?_⟩
  have nf := st.sub.free np
  have g := Grow.new (rho := rho) (o := .lst (vs.drop is.length)) st.sub np
  have s2 : Same (upd F p (.lst (vs.drop is.length))) (upd H p (.lst (vs.drop is.length))) := fun a o e => by
    by_cases z : a = p
    · subst z; rw [upd_same] at e ⊢; exact e
    · rw [upd_ne z] at e ⊢; exact st.sub _ _ e
  have c1 : CVs X.K X.w (upd F p (.lst (vs.drop is.length))) rho us vs := cs.mono g.fex (Pre.refl _)
  refine gNames_of (by simp; omega) (q _ _ _ g (same_upd np (Same.refl _)) (st.more g s2 (same_upd np (Same.refl _))) ?_ (setV_but _ _ _))
  rw [setV_append _ _ _ _ _ (by simp; omega), setAll_take]
  exact set_slots (setAll_ok (c1.take _) (sl.grow g)) (.lst upd_same (c1.drop _))
mutual
theorem g_all (o : XOk N cf k X W) : ∀ (t : LT) (e : Expr), chkT k t e = true → PG X e (rdG X.K X.w t)
  | .nm i, e, h => by
    cases e with
    | Name x p =>
      unfold chkT at h
      refine PG.imp (g_nm o h) fun v sv H Q q => ?_
      obtain ⟨F, rho, S, σ, u, σ', st, sl, c, e, q⟩ := q
      unfold assign at e
      cases e
      exact q F H _ (Grow.refl _ _ _) (Same.refl _) st (set_slots sl c) (But.set _ _ _)
    | _ => unfold chkT at h; cases h
  | .st is j, e, h => by
    cases e with
    | Tuple es n p =>
      unfold chkT at h
      exact g_st o h
    | _ => unfold chkT at h; cases h
  | .tp ts, e, h => by
    cases e with
    | Tuple es n p =>
      unfold chkT at h
      obtain ⟨h1, h2, h3⟩ := each_plain h X.env
      refine PG.imp (pg_tup o.calm (gs_all o ts es h) h1 h2) fun v sv H Q q => ?_
      obtain ⟨F, rho, S, σ, u, σ', st, sl, c, e, q⟩ := q
      unfold assign at e
      cases u with
      | tup us =>
        simp only at e
        obtain ⟨a, vs, rfl, hq, cs⟩ := CVb.tup st (.of c)
        have hl : us.length = ts.length := assigns_len e
        refine ⟨a, vs, rfl, hq, by rw [← cs.length]; exact hl, F, rho, S, σ, us, σ', st, sl, cs, e, fun F' H' sv' g k st' sl' b => q F' H' sv' g k st' sl' b⟩
      | _ => cases e
    | _ => unfold chkT at h; cases h
theorem gs_all (o : XOk N cf k X W) : ∀ (ts : List LT) (es : List Expr), chkTs k ts es = true → PGs X es (rdGs X.K X.w ts)
  | [], [], h => PGs.imp pgs_nil fun vs sv H Q q => by
    obtain ⟨F, rho, S, σ, us, σ', st, sl, c, e, q⟩ := q
    cases c with
    | nil =>
      unfold assign.assigns at e
      cases e
      exact ⟨rfl, q F H sv (Grow.refl _ _ _) (Same.refl _) st sl (But.refl _ _)⟩
    | cons => unfold assign.assigns at e; cases e
  | [], _ :: _, h => by unfold chkTs at h; cases h
  | t :: ts, [], h => by unfold chkTs at h; cases h
  | t :: ts, e :: es, h => by
    unfold chkTs at h
    obtain ⟨h1, h2⟩ := ba h
    obtain ⟨h3, h4⟩ := ba h2
    refine PGs.imp (pgs_cons (g_all o t e h1) (gs_all o ts es h4) (by rw [each_cons (by simpa using h3)]; rfl)) fun vs sv H Q q => ?_
    obtain ⟨F, rho, S, σ, us, σ', st, sl, c, e, q⟩ := q
    cases c with
    | nil => unfold assign.assigns at e; cases e
    | cons c cs =>
      unfold assign.assigns at e
      simp only [Option.bind_eq_some_iff] at e
      obtain ⟨σ1, e1, e2⟩ := e
      refine ⟨_, _, rfl, F, rho, S, σ, _, σ1, st, sl, c, e1, fun F1 H1 sv1 g1 k1 st1 sl1 b1 => ?_⟩
      refine ⟨F1, rho, S, σ1, _, σ', st1, sl1, cs.mono g1.fex (Pre.refl _), e2, fun F2 H2 sv2 g2 k2 st2 sl2 b2 => ?_⟩
      exact q F2 H2 sv2 (g1.trans g2) (k1.trans k2) st2 sl2 (b1.trans b2)
end
end
end Far

set_option Elab.async false
set_option linter.all false
set_option maxRecDepth 100000
set_option maxHeartbeats 4000000
/-! Methods of texts and lists. -/
namespace Far
open PySem PySem.Spec PyProof.Rows L2
theorem strs_of {K : PySem.W.Frag} {w : World} {F : Hp} {rho : List Addr} : ∀ {us : List U} {vs : List V} {ys : List Str}, CVs K w F rho us vs → strsOf us = some ys → vs = ys.map V.str
  | _, _, _, .nil, e => by
    unfold strsOf at e
    cases e
    rfl
  | _, _, ys, .cons (u := u) h hs, e => by
    cases h with
    | str z =>
      unfold strsOf at e
      simp only [Option.map_eq_some_iff] at e
      obtain ⟨zs, e1, rfl⟩ := e
      rw [strs_of hs e1]
      rfl
    | _ => simp [strsOf] at e
theorem cvs_strs {K : PySem.W.Frag} {w : World} {F : Hp} {rho : List Addr} : ∀ (ys : List Str), CVs K w F rho (ys.map U.str) (ys.map V.str)
  | [] => .nil
  | y :: ys => .cons (.str y) (cvs_strs ys)
theorem first_ok {d : PyData} : ∀ {ds : List PyData} {n j : Nat}, firstAt d ds n = some j → n ≤ j ∧ ∃ z, ds[j - n]? = some z ∧ PyData.eqv z d = true ∧ ∀ (m : Nat) (z' : PyData), m < j - n → ds[m]? = some z' → PyData.eqv z' d = false
  | [], n, j, h => by cases h
  | z :: zs, n, j, h => by
    unfold firstAt at h
    split at h
    · rename_i hz
      cases h
      refine ⟨Nat.le_refl _, z, by simp, hz, fun m z' hm => by omega⟩
    · rename_i hz
      obtain ⟨h1, z1, h2, h3, h4⟩ := first_ok h
      refine ⟨by omega, z1, ?_, h3, fun m z' hm hz' => ?_⟩
      · have : j - n = (j - (n + 1)) + 1 := by omega
        rw [this]
        simpa using h2
      · cases m with
        | zero =>
          simp at hz'
          subst hz'
          simpa using hz
        | succ m => exact h4 m z' (by omega) (by simpa using hz')
section
variable {N : Cn} {cf : CF} {k : Ck} {X : Cx} {W : WX}
def rMet (K : PySem.W.Frag) (w : World) (m : Met) : V → List V → Hp → VK → Prop := fun x xs H Q => ∃ F rho S o e y p, xs = [y] ∧ St K w F H rho S ∧ CV K w F rho o x ∧ CVb K w F H rho e y ∧ met m o e = some p ∧ PP K w F H rho p Q
def metId : Met → String
  | .split => "str.split"
  | .part => "str.partition"
  | .join => "str.join"
  | .starts => "str.startswith"
  | .ends => "str.endswith"
  | .index => "list.index"
theorem mt_met (hu : X.A.units + 65 < cLine) (m : Met) : MtR X (metId m) (rMet X.K X.w m) := by
  intro pins s σ H x xs v us Q I rx rs h
  obtain ⟨F, rho, S, o, e, y, p, rfl, st, co, ce, em, q⟩ := h
  unfold met at em
  split at em
  · split at em
    · rename_i a b h
      cases em
      cases co
      obtain rfl := ce.str
      exact mt_split pins s σ H _ _ v us Q I rx rs ⟨a, b, rfl, rfl, h.1, big_line h.2, fun p n => q p _ n (cvs_strs _)⟩
    · cases em
  · split at em
    · rename_i a b h
      cases em
      cases co
      obtain rfl := ce.str
      exact mt_partition pins s σ H _ _ v us Q I rx rs ⟨a, b, rfl, rfl, h.1, big_line h.2, fun p n => q.newT st (.cons (.str _) (.cons (.str _) (.cons (.str _) .nil))) n⟩
    · cases em
  · rename_i a us'
    simp only [Option.bind_eq_some_iff] at em
    obtain ⟨ys, e1, e2⟩ := em
    split at e2
    · rename_i h
      cases e2
      cases co
      obtain ⟨a2, vs2, rfl, hq, cs⟩ := ce.lst st
      rw [strs_of cs e1] at hq
      exact mt_join pins s σ H _ _ v us Q I rx rs ⟨a, _, ys, rfl, rfl, .inl (SqL.of hq), Nat.le_trans h (by decide), q.here st (.str _)⟩
    · cases e2
  · cases em
    cases co
    obtain rfl := ce.str
    exact mt_startswith pins s σ H _ _ v us Q I rx rs ⟨_, _, rfl, rfl, q.here st (.bl _)⟩
  · cases em
    cases co
    obtain rfl := ce.str
    exact mt_endswith pins s σ H _ _ v us Q I rx rs ⟨_, _, rfl, rfl, q.here st (.bl _)⟩
  · rename_i us'
    simp only [Option.bind_eq_some_iff] at em
    obtain ⟨ds, e1, d, e2, e3⟩ := em
    split at e3
    · rename_i hs
      rw [Bool.and_eq_true] at hs
      simp only [Option.map_eq_some_iff] at e3
      obtain ⟨j, e4, rfl⟩ := e3
      obtain ⟨_, z, f1, f2, f3⟩ := first_ok e4
      have hd : U.data (.lst us') = some (.list ds) := by simp [U.data, e1]
      cases co with
      | lst hq cs =>
        have dp := CV.dp st.sub (.lst hq cs) hd
        exact mt_indexD hu pins s σ H _ _ v us Q I rx rs ⟨_, y, d, ds, j, z, rfl, rfl, dp, CVb.dp st.sub ce e2, hs.1, hs.2, f1, f2, f3, q.here st (.int _)⟩
    · cases e3
  · cases em
theorem base_ok {x : Expr} (h : noargs x = false) (n : Str) (env : Env) : attributeBase x n env (eval x env) = eval x env := by
  unfold attributeBase
  split
  · cases h
  · rfl
theorem few_one {z : Expr} (h : starred z = false) (p : Pos) (env : Env) : ((backTo p (starEach [z] env)).all (fun x => !x.1) && (backToKw p (keywordEach [] env)).all (fun x => x.1.isSome) && decide ([z].length + ([] : List Keyword).length + (if ([] : List Keyword).isEmpty then 0 else 1) < 30)) = true := by
  rw [star_cons h]
  rfl
theorem e_m1 (ok : XOk N cf k X W) {m : Met} {a b : LE} {x z : Expr} {n : Str} {ap p : Pos} (hn : n = metName m) (hl : (ap.endLine == p.line) = true) (hx : noargs x = false) (hs : starred z = false) (ha : PE X x (rdE N cf X.K X.w X.mg W a)) (hb : PE X z (rdB N cf X.K X.w X.mg W b)) :
    PE X (.Call (.Attribute x n ap) [z] [] p) (rdE N cf X.K X.w X.mg W (.m1 m a b)) := by
  subst hn
  have hu := ok.room
  have key : ∀ T, (∀ u v F H rho S, St X.K X.w F H rho S → CV X.K X.w F rho u v → metTy m u = true → tyV X.K T v H) → ∀ sv H (Q : VK), rdE N cf X.K X.w X.mg W (.m1 m a b) sv H Q → tBM X.K T (rMet X.K X.w m) (rdE N cf X.K X.w X.mg W a) (tCons (rdB N cf X.K X.w X.mg W b) tNil) sv H Q := fun T hT sv H Q q => by
    obtain ⟨F, rho, σ, S, st, sl, q⟩ := q
    simp only [evE] at q
    refine ⟨F, rho, σ, S, st, sl, (Post.bind q).imp fun v H1 ⟨u, S1, F1, rho1, g1, st1, c1, q1, _⟩ => ?_⟩
    by_cases ht : metTy m u = true
    · rw [if_pos ht] at q1
      refine ⟨hT u v F1 H1 rho1 S1 st1 c1 ht, F1, rho1, σ, S1, st1, sl.grow g1, (Post.bind q1).imp fun v2 H2 ⟨u2, S2, F2, rho2, g2, st2, c2, q2, _⟩ => ?_⟩
      obtain ⟨pr, e, pp⟩ := q2.pp st2
      exact ⟨F2, rho2, S2, u, u2, v2, pr, rfl, st2, c1.mono g2.fex g2.rex, c2, e, pp⟩
    · rw [if_neg ht] at q1
      exact q1.elim
  have tS : ∀ u v F H rho S, St X.K X.w F H rho S → CV X.K X.w F rho u v → (∃ z, u = .str z) → tyV X.K "str" v H := fun u v F H rho S st c h => by
    obtain ⟨z, rfl⟩ := h
    cases c
    rfl
  have hse := star_cons hs ([] : List Expr) X.env
  have hpa := pa_cons hb pa_nil hse
  cases m with
  | split => exact PE.imp (pe_bm F.plainAttrs_str F.slot_str_split F.type_str_split (mt_met hu .split) ha hpa (base_ok hx _ _) (few_one hs _ _) hl hse rfl) (key "str" fun u v F H rho S st c h => tS u v F H rho S st c (by cases u <;> first | exact ⟨_, rfl⟩ | cases h))
  | part => exact PE.imp (pe_bm F.plainAttrs_str F.slot_str_partition F.type_str_partition (mt_met hu .part) ha hpa (base_ok hx _ _) (few_one hs _ _) hl hse rfl) (key "str" fun u v F H rho S st c h => tS u v F H rho S st c (by cases u <;> first | exact ⟨_, rfl⟩ | cases h))
  | join => exact PE.imp (pe_bm F.plainAttrs_str F.slot_str_join F.type_str_join (mt_met hu .join) ha hpa (base_ok hx _ _) (few_one hs _ _) hl hse rfl) (key "str" fun u v F H rho S st c h => tS u v F H rho S st c (by cases u <;> first | exact ⟨_, rfl⟩ | cases h))
  | starts => exact PE.imp (pe_bm F.plainAttrs_str F.slot_str_startswith F.type_str_startswith (mt_met hu .starts) ha hpa (base_ok hx _ _) (few_one hs _ _) hl hse rfl) (key "str" fun u v F H rho S st c h => tS u v F H rho S st c (by cases u <;> first | exact ⟨_, rfl⟩ | cases h))
  | ends => exact PE.imp (pe_bm F.plainAttrs_str F.slot_str_endswith F.type_str_endswith (mt_met hu .ends) ha hpa (base_ok hx _ _) (few_one hs _ _) hl hse rfl) (key "str" fun u v F H rho S st c h => tS u v F H rho S st c (by cases u <;> first | exact ⟨_, rfl⟩ | cases h))
  | index => exact PE.imp (pe_bm F.plainAttrs_list F.slot_list_index F.type_list_index (mt_met hu .index) ha hpa (base_ok hx _ _) (few_one hs _ _) hl hse rfl) (key "list" fun u v F H rho S st c h => by
      cases c with
      | lst hq cs => exact .inl ⟨rfl, _, SqL.of (st.sub _ _ hq)⟩
      | _ => cases h)
theorem e_fv {a : LE} {x : Expr} {p : Pos} (ha : PE X x (rdE N cf X.K X.w X.mg W a)) : PE X (.FormattedValue x (-1) none p) (rdE N cf X.K X.w X.mg W (.fv a)) := by
  refine PE.imp (pe_fmt ha) fun sv H Q q => ?_
  obtain ⟨F, rho, σ, S, st, sl, q⟩ := q
  simp only [evE] at q
  refine ⟨F, rho, σ, S, st, sl, (Post.bind q).imp fun v H1 ⟨u, S1, F1, rho1, g1, st1, c1, q1, _⟩ => ?_⟩
  obtain ⟨w', e, hq⟩ := q1.item st1
  unfold fmtU at e
  split at e
  · split at e
    · rename_i hl
      cases e
      cases c1
      exact .inl ⟨_, rfl, big_line hl, hq _ (.str _)⟩
    · cases e
  · split at e
    · rename_i hl
      cases e
      cases c1
      exact .inr ⟨_, rfl, hl, hq _ (.str _)⟩
    · cases e
  · cases e
/-- each part of an f-string -/
def EachJ (N : Cn) (cf : CF) (X : Cx) (W : WX) : LEs → List Expr → Prop
  | .nil, [] => True
  | .cons e es, x :: xs => PE X x (rdE N cf X.K X.w X.mg W e) ∧ EachJ N cf X W es xs
  | _, _ => False
def tsJ (N : Cn) (cf : CF) (X : Cx) (W : WX) : LEs → List TE
  | .nil => []
  | .cons e es => rdE N cf X.K X.w X.mg W e :: tsJ N cf X W es
theorem pj_of : ∀ {es : LEs} {xs : List Expr}, EachJ N cf X W es xs → PJ X xs (tsJ N cf X W es)
  | .nil, [], _ => .nil
  | .nil, _ :: _, h => h.elim
  | .cons _ _, [], h => h.elim
  | .cons e es, x :: xs, h => .cons h.1 (pj_of h.2)
theorem js_of {Q : Str → Hp → Prop} {sv : L2.St} : ∀ (es : LEs) (acc : Str) (F H : Hp) (rho : List Addr) (σ : Slots) (S : Sto), St X.K X.w F H rho S → SlotsOk X.K X.w F H rho σ sv → Post X.K X.w X.mg relEq F H rho (evJs N cf σ es acc S) Q (WE W sv) → tJs (tsJ N cf X W es) acc sv H Q
  | .nil, acc, F, H, rho, σ, S, st, sl, q => by
    simp only [evJs] at q
    exact q acc F H rho (Grow.refl _ _ _) st rfl
  | .cons e es, acc, F, H, rho, σ, S, st, sl, q => by
    simp only [evJs] at q
    refine ⟨F, rho, σ, S, st, sl, (Post.bind q).imp fun v H1 ⟨u, S1, F1, rho1, g1, st1, c1, q1, _⟩ => ?_⟩
    cases c1 with
    | str y =>
      simp only at q1
      split at q1
      · rename_i hl
        exact ⟨y, rfl, big_line hl, js_of es _ F1 H1 rho1 σ S1 st1 (sl.grow g1) q1⟩
      · exact q1.elim
    | _ => exact q1.elim
theorem e_fs {es : LEs} {v1 v2 : Expr} {rest : List Expr} {p : Pos} (h : EachJ N cf X W es (v1 :: v2 :: rest)) : PE X (.JoinedStr (v1 :: v2 :: rest) p) (rdE N cf X.K X.w X.mg W (.fs es)) := by
  refine PE.imp (pe_joined (pj_of h)) fun sv H Q q => ?_
  obtain ⟨F, rho, σ, S, st, sl, q⟩ := q
  simp only [evE] at q
  refine js_of es _ F H rho σ S st sl ((Post.bind q).imp fun z H1 ⟨z', S1, F1, rho1, g1, st1, c1, q1, _⟩ => ?_)
  cases c1
  exact q1.val st1 (.str _)
end
end Far

set_option Elab.async false
set_option linter.all false
set_option maxRecDepth 100000
set_option maxHeartbeats 4000000
/-! Dict displays, comprehensions; all expressions. -/
namespace Far
open PySem PySem.Spec PyProof.Rows L2
def isBool : Expr → Bool
  | .BoolOp .. => true
  | _ => false
section
variable {N : Cn} {cf : CF} {k : Ck} {X : Cx} {W : WX}
/-- a test, bare or among and, or -/
inductive PWT (X : Cx) (e : Expr) (t : TT) : Prop where
  | w (h : PW X e t) : PWT X e t
  | t (hn : isBool e = false) (h : PT X e t) : PWT X e t
theorem PWT.pt {X : Cx} {e : Expr} {t : TT} (h : PWT X e t) : PT X e t := by
  cases h with
  | w h => exact h.pt
  | t _ h => exact h
theorem PWT.pw {X : Cx} {e : Expr} {t : TT} (h : PWT X e t) (b : isBool e = true) : PW X e t := by
  cases h with
  | w h => exact h
  | t n h => rw [n] at b; cases b
theorem PW.imp {X : Cx} {e : Expr} {t t' : TT} (h : PW X e t) (q : ∀ sv H Q, t' sv H Q → t sv H Q) : PW X e t' := ⟨fun wh pins s σ H Q I z => h.run wh pins s σ H Q I (q _ _ _ z)⟩
def EachE (N : Cn) (cf : CF) (X : Cx) (W : WX) : LEs → List Expr → Prop
  | .nil, [] => True
  | .cons e es, x :: xs => PE X x (rdE N cf X.K X.w X.mg W e) ∧ EachE N cf X W es xs
  | _, _ => False
/-! ### a dict display -/
theorem putK_new {ks : List Key} {vs : List V} {q : Key} {v : V} (hl : ks.length = vs.length) (h : q ∉ ks) : putK (ks.zip vs) q v = ks.zip vs ++ [(q, v)] := by
  unfold putK
  rw [if_neg]
  intro z
  rw [List.any_eq_true] at z
  obtain ⟨kv, m, e⟩ := z
  have := (List.of_mem_zip m).1
  rw [of_decide_eq_true e] at this
  exact h this
theorem mergeK_nd : ∀ {ks js : List Key} {vs ws : List V}, js.length = ws.length → ks.length = vs.length → (js ++ ks).Nodup → mergeK (js.zip ws) (ks.zip vs) = (js ++ ks).zip (ws ++ vs)
  | [], js, [], ws, _, _, _ => by simp [mergeK]
  | [], _, _ :: _, _, _, l, _ => by cases l
  | _ :: _, _, [], _, _, l, _ => by cases l
  | q :: ks, js, v :: vs, ws, l1, l2, nd => by
    show mergeK (putK (js.zip ws) q v) (ks.zip vs) = _
    rw [putK_new l1 (by
      intro z
      rw [List.nodup_append] at nd
      exact nd.2.2 q z q List.mem_cons_self rfl)]
    have e1 : js.zip ws ++ [(q, v)] = (js ++ [q]).zip (ws ++ [v]) := by
      rw [List.zip_append l1]
      rfl
    rw [e1, mergeK_nd (ks := ks) (js := js ++ [q]) (by simp [l1]) (by simpa using l2) (by simpa using nd)]
    simp
def trsOf (K : PySem.W.Frag) (w : World) (mg : Str → Option Value) (N : Cn) (cf : CF) (W : WX) : List Key → LEs → List (TE × TE)
  | q :: ks, .cons e es => (tC (kV q), rdE N cf K w mg W e) :: trsOf K w mg N cf W ks es
  | _, _ => []
def zipK (ks : List Key) (vs : List V) : List (V × V) := (ks.zip vs).map fun kv => (kV kv.1, kv.2)
theorem pairs_of {K : PySem.W.Frag} {w : World} {mg : Str → Option Value} {sv : L2.St} {σ : Slots} : ∀ {ks : List Key} {es : LEs} {F H : Hp} {rho : List Addr} {S : Sto} {Q : List (V × V) → Hp → Prop}, ks.length = es.len → St K w F H rho S → SlotsOk K w F H rho σ sv →
    Post K w mg (relL K w) F H rho (evEs N cf σ es S) (fun vs H' => Q (zipK ks vs) H') (WE W sv) → tPairs (trsOf K w mg N cf W ks es) sv H Q
  | [], .nil, F, H, rho, S, Q, _, st, sl, q => q [] F H rho (Grow.refl _ _ _) st .nil
  | [], .cons _ _, _, _, _, _, _, l, _, _, _ => by cases l
  | _ :: _, .nil, _, _, _, _, _, l, _, _, _ => by cases l
  | x :: ks, .cons e es, F, H, rho, S, Q, l, st, sl, q => by
    simp only [evEs] at q
    refine ⟨F, rho, σ, S, st, sl, (Post.bind q).imp fun y H1 ⟨u, S1, F1, rho1, g1, st1, c1, q1, _⟩ => ?_⟩
    refine pairs_of (by simpa [LEs.len] using l) st1 (sl.grow g1) ((Post.bind q1).imp fun ys H2 ⟨us, S2, F2, rho2, g2, st2, c2, q2, _⟩ => ?_)
    exact q2 (y :: ys) F2 H2 rho2 (Grow.refl _ _ _) st2 (.cons (c1.mono g2.fex g2.rex) c2)
theorem pps_of {p : Pos} : ∀ {ks : List Key} {es : LEs} {keys : List (Option Expr)} {vals : List Expr}, keysOk ks keys = true → keys.length = vals.length → chkEs k es vals = true → EachE N cf X W es vals →
    PPs X p keys vals (trsOf X.K X.w X.mg N cf W ks es) ∧ ks.length = es.len ∧ ks.length = keys.length ∧ keys.all (·.isSome) = true
  | [], es, [], vals, h1, h2, h3, h => by
    cases vals with
    | nil =>
      cases es with
      | nil => exact ⟨pps_nil, rfl, rfl, rfl⟩
      | cons => cases h3
    | cons => cases h2
  | [], _, _ :: _, _, h1, _, _, _ => by cases h1
  | _ :: _, _, [], _, h1, _, _, _ => by cases h1
  | _ :: _, _, none :: _, _, h1, _, _, _ => by cases h1
  | q :: ks, es, some x :: keys, vals, h1, h2, h3, h => by
    cases vals with
    | nil => cases h2
    | cons y vals =>
      cases es with
      | nil => cases h3
      | cons e es =>
        unfold keysOk at h1
        unfold chkEs at h3
        obtain ⟨a1, a2⟩ := ba h1
        obtain ⟨b1, b2⟩ := ba h3
        obtain ⟨b3, b4⟩ := ba b2
        obtain ⟨i1, i2, i3, i4⟩ := pps_of (p := p) a2 (by simpa using h2) b4 h.2
        refine ⟨pps_cons ?_ h.1 i1, by simp [LEs.len, i2], by simp [i3], by simp [i4]⟩
        unfold keyOk at a1
        split at a1
        · rw [eq_of_beq a1]
          exact pe_int
        · rw [eq_of_beq a1]
          exact pe_str
        · cases a1
/-- a thing that was laid meanwhile is frozen in another make -/
theorem Grow.froze {F H F2 H2 : Hp} {rho rho2 : List Addr} {p : Addr} {o : HO} (g : Grow F H rho F2 H2 rho2) (n : H p = none) (f : F2 p = none) : Grow F H rho (upd F2 p o) (upd H2 p o) rho2 where
  fex := fun a u e => by
    have e2 := g.fex a u e
    rw [upd_ne (ne_of_none e2 f)]
    exact e2
  fnew := fun a u e => by
    by_cases z : a = p
    · subst z; exact .inr n
    · rw [upd_ne z] at e; exact g.fnew a u e
  rex := g.rex
  rnew := g.rnew
  keep := fun a u e na => by
    rw [upd_ne (ne_of_none e n)]
    exact g.keep a u e na
  dom := fun a e => by
    by_cases z : a = p
    · subst z; exact n
    · rw [upd_ne z] at e; exact g.dom a e
theorem St.froze {K : PySem.W.Frag} {w : World} {F H : Hp} {rho : List Addr} {S : Sto} {p : Addr} {o : HO} (st : St K w F H rho S) (f : F p = none) (n : p ∉ rho) : St K w (upd F p o) (upd H p o) rho S where
  sub := fun a u e => by
    by_cases z : a = p
    · subst z; rw [upd_same] at e ⊢; exact e
    · rw [upd_ne z] at e ⊢; exact st.sub _ _ e
  len := st.len
  nd := st.nd
  sto := fun m a q e1 e2 => by
    obtain ⟨f1, x, e3, e4⟩ := st.sto m a q e1 e2
    have z : a ≠ p := fun z => by
      subst z
      exact n (List.mem_of_getElem? e1)
    exact ⟨by rw [upd_ne z]; exact f1, x, by rw [upd_ne z]; exact e3, e4.mono (same_upd f (Same.refl _)) (Pre.refl _)⟩
/-- what a step of a new thing's making leaves of it -/
theorem Grow.at {F H F2 H2 : Hp} {rho rho2 : List Addr} {p : Addr} {o : HO} (g : Grow F H rho F2 H2 rho2) (f : F p = none) (n : p ∉ rho) (h : H p = some o) : F2 p = none ∧ p ∉ rho2 ∧ H2 p = some o := by
  refine ⟨?_, fun z => ?_, g.keep _ _ h n⟩
  · cases z : F2 p with
    | none => rfl
    | some x =>
      rcases g.fnew p x z with y | y
      · rw [f] at y; cases y
      · rw [h] at y; cases y
  · rcases g.rnew _ z with z | z
    · exact n z
    · rw [h] at z; cases z
theorem St.new {K : PySem.W.Frag} {w : World} {F H : Hp} {rho : List Addr} {S : Sto} {p : Addr} (st : St K w F H rho S) (n : H p = none) : p ∉ rho := fun z => by
  obtain ⟨_, x, e⟩ := st.mem z
  rw [n] at e
  cases e
theorem St.lay {K : PySem.W.Frag} {w : World} {F H : Hp} {rho : List Addr} {S : Sto} {p : Addr} {o : HO} (st : St K w F H rho S) (n : H p = none) : St K w F (upd H p o) rho S where
  sub := st.sub.trans (same_upd n (Same.refl _))
  len := st.len
  nd := st.nd
  sto := fun m a q e1 e2 => by
    obtain ⟨f1, x, e3, e4⟩ := st.sto m a q e1 e2
    exact ⟨f1, x, by rw [upd_ne (ne_of_none e3 n)]; exact e3, e4⟩
theorem e_dctL {ks : List Key} {es : LEs} {keys : List (Option Expr)} {vals : List Expr} {p : Pos} (h1 : keysOk ks keys = true) (h2 : keys.length = vals.length) (h0 : keys ≠ []) (h15 : keys.length ≤ 15) (h3 : chkEs k es vals = true) (h : EachE N cf X W es vals) :
    PE X (.Dict keys vals p) (rdE N cf X.K X.w X.mg W (.dct ks es)) := by
  obtain ⟨i1, i2, i3, i4⟩ := pps_of (N := N) (cf := cf) (W := W) (p := p) h1 h2 h3 h
  refine PE.imp (pe_disp i1 i4 h2 h0 h15) fun sv H Q q => ?_
  obtain ⟨F, rho, σ, S, st, sl, q⟩ := q
  simp only [evE] at q
  intro p np
  have nf := st.sub.free np
  have nr := st.new np
  have gl : Grow F H rho F (upd H p (.dK [])) rho := Grow.lay np
  refine pairs_of i2 (st.lay np) (sl.grow gl) ?_
  cases e : evEs N cf σ es S with
  | bad => rw [e] at q; exact q.elim
  | exc x S1 =>
    rw [e] at q
    exact fun c d F' H' rho' g' st' xr => q c d F' H' rho' (gl.trans g') st' xr
  | ok us S1 =>
    rw [e] at q
    intro vs F1 H1 rho1 g1 st1 c1
    simp only [R.bind_ok] at q
    split at q
    · rename_i hc
      obtain ⟨f1, n1, e1⟩ := g1.at nf nr upd_same
      have hl : ks.length = vs.length := by rw [← c1.length]; exact hc.1.symm
      refine ⟨e1, ks.zip vs, rfl, by rw [List.length_zip]; omega, ?_⟩
      have hm := mergeK_nd (ks := ks) (js := []) (vs := vs) (ws := []) rfl hl (by simpa using hc.2.2)
      have hm2 : mergeK [] (ks.zip vs) = ks.zip vs := by simpa using hm
      rw [hm2]
      exact q _ _ _ rho1 ((gl.trans g1).froze np f1) (st1.froze f1 n1) (.dct upd_same hl (c1.mono (same_upd f1 (Same.refl _)) (Pre.refl _)))
    · exact q.elim

/-! ### comprehensions -/
theorem XOk.blk (ok : XOk N cf k X W) {scope : Scope} {s : Shared} {H : Hp} {C : Addr} {cl : List (Str × Addr)} {fp : List Addr} : XOk N cf (k.blk scope) (X.blk s H scope (compEnvC scope cl C X.env) fp) (fun _ _ _ _ => False) where
  ns := ok.ns
  sc := by
    show relabel scope X.env = relS scope k.sc
    rw [← ok.sc]
    rfl
  fn := fun x h => h
  nd := ok.nd
  calm := ok.calm
  room := ok.room
  con := ok.con
  free := ok.free
  takes := takes0
  calls := ok.calls
def rdK (N : Cn) (cf : CF) (K : PySem.W.Frag) (w : World) (mg : Str → Option Value) (W : WX) (e : LK) : TT := fun sv H Q => ∃ F rho σ S, St K w F H rho S ∧ SlotsOk K w F H rho σ sv ∧ Post K w mg relEq F H rho (evC N cf σ e S) Q (WE W sv)
theorem PTs.imp {X : Cx} {e : List Expr} {t t' : TT} (h : PTs X e t) (q : ∀ sv H Q, t' sv H Q → t sv H Q) : PTs X e t' := ⟨fun pins s σ H Q I z => h.run pins s σ H Q I (q _ _ _ z)⟩
theorem Post.bindN {K : PySem.W.Frag} {w : World} {mg : Str → Option Value} {α β γ δ : Type} {rel : Hp → Hp → List Addr → α → β → Prop} {rel2 : Hp → Hp → List Addr → γ → δ → Prop} {F H F0 H0 : Hp} {rho rho0 : List Addr} {r : R α} {f : α → Sto → R γ} {Q : δ → Hp → Prop} {E E' : XK}
    (h : Post K w mg rel2 F0 H0 rho0 (r.bindN f) Q E) : Post K w mg rel F H rho r (fun b H1 => ∃ a S1 F1 rho1, Grow F H rho F1 H1 rho1 ∧ St K w F1 H1 rho1 S1 ∧ rel F1 H1 rho1 a b ∧ Post K w mg rel2 F0 H0 rho0 (f a S1) Q E) E' := by
  cases r with
  | ok a S => exact fun b F' H' rho' g st c => ⟨a, S, F', rho', g, st, c, h⟩
  | exc x S => exact h.elim
  | bad => exact h.elim
theorem wipe_at (sv : L2.St) (own : List Nat) (i : Nat) : (wipe sv own)[i]? = if i ∈ own then (sv[i]?).map (fun _ => none) else sv[i]? := by
  by_cases h : i ∈ own
  · rw [if_pos h]
    induction own with
    | nil => cases h
    | cons j own ih =>
      unfold wipe
      by_cases z : j = i
      · subst z
        by_cases hl : j < sv.length
        · rw [List.getElem?_set_self (by rw [wipe_length]; exact hl), List.getElem?_eq_getElem hl]
          rfl
        · rw [List.getElem?_eq_none (by rw [List.length_set, wipe_length]; omega), List.getElem?_eq_none (by omega)]
          rfl
      · rw [List.getElem?_set_ne z]
        exact ih (by rcases List.mem_cons.mp h with h | h
                     · exact absurd h.symm z
                     · exact h)
  · rw [if_neg h]
    exact wipe_out h
theorem wipeS_len : ∀ (own : List Nat) (σ : Slots), (wipeS σ own).length = σ.length
  | [], σ => rfl
  | i :: own, σ => by
    unfold wipeS
    rw [wipeS_len own, List.length_set]
theorem wipeS_at : ∀ (own : List Nat) (σ : Slots) (i : Nat) (s : SL), (wipeS σ own)[i]? = some s → s = .no ∨ (i ∉ own ∧ σ[i]? = some s)
  | [], σ, i, s, h => .inr ⟨by simp, h⟩
  | j :: own, σ, i, s, h => by
    unfold wipeS at h
    rcases wipeS_at own (σ.set j .no) i s h with h | ⟨h1, h2⟩
    · exact .inl h
    · by_cases z : j = i
      · subst z
        have hl : j < σ.length := by
          have := (List.getElem?_eq_some_iff.mp h2).1
          simpa using this
        rw [List.getElem?_set_self hl] at h2
        exact .inl (Option.some.inj h2).symm
      · rw [List.getElem?_set_ne z] at h2
        exact .inr ⟨by simp [h1, Ne.symm z], h2⟩
theorem SlotsOk.wipe {K : PySem.W.Frag} {w : World} {F H : Hp} {rho : List Addr} {σ : Slots} {sv : L2.St} (sl : SlotsOk K w F H rho σ sv) (own : List Nat) : SlotsOk K w F H rho (wipeS σ own) (L2.wipe sv own) where
  len := by rw [wipeS_len, wipe_length, sl.len]
  at_ := fun i s e => by
    have hl : i < (L2.wipe sv own).length := by
      rw [wipe_length, ← sl.len, ← wipeS_len own σ]
      exact (List.getElem?_eq_some_iff.mp e).1
    rcases wipeS_at own σ i s e with rfl | ⟨h1, h2⟩
    · exact ⟨_, List.getElem?_eq_getElem hl, trivial⟩
    · obtain ⟨o, e1, ok⟩ := sl.at_ i s h2
      exact ⟨o, by rw [wipe_out h1]; exact e1, ok⟩
  apart := fun i j us ws p e1 e2 e3 e4 => by
    rcases wipeS_at own σ i _ e1 with z | ⟨h1, h2⟩
    · cases z
    · rcases wipeS_at own σ j _ e2 with z | ⟨h3, h4⟩
      · cases z
      · rw [wipe_out h1] at e3
        rw [wipe_out h3] at e4
        exact sl.apart i j us ws p h2 h4 e3 e4
theorem But.wiped {is own : List Nat} {sv sv' : L2.St} (b : But is sv sv') (h : ∀ i ∈ is, i ∈ own) : L2.wipe sv' own = L2.wipe sv own := by
  apply List.ext_getElem? fun i => ?_
  rw [wipe_at, wipe_at]
  by_cases z : i ∈ own
  · rw [if_pos z, if_pos z]
    by_cases hl : i < sv.length
    · rw [List.getElem?_eq_getElem hl, List.getElem?_eq_getElem (by rw [b.1]; exact hl)]
      rfl
    · rw [List.getElem?_eq_none (by rw [b.1]; omega), List.getElem?_eq_none (by omega)]
  · rw [if_neg z, if_neg z]
    exact b.2 i fun y => z (h i y)
theorem wipe_wipe (sv : L2.St) (own : List Nat) : L2.wipe (L2.wipe sv own) own = L2.wipe sv own := by
  apply List.ext_getElem? fun i => ?_
  rw [wipe_at, wipe_at]
  by_cases z : i ∈ own
  · rw [if_pos z, if_pos z]
    cases sv[i]? <;> rfl
  · rw [if_neg z, if_neg z]
theorem drop_cons {α : Type} {us : List α} {i : Nat} {u : α} (h : us[i]? = some u) : us.drop i = u :: us.drop (i + 1) := by
  obtain ⟨hl, rfl⟩ := List.getElem?_eq_some_iff.mp h
  exact List.drop_eq_getElem_cons hl
theorem own_map (ns : List Str) (own : List Nat) : (own.map fun i => (ns.getD i Str.empty, i)).map (·.2) = own := by
  rw [List.map_map]
  exact List.map_id own
/-- the turns of a comprehension keep what the evaluator says -/
theorem lc_turns {K : PySem.W.Frag} {w : World} {mg : Str → Option Value} {own : List Nat} {tg : LT} {cs : LK} {e : LE} {sv : L2.St} {σ : Slots} {F1 H1 : Hp} {rho1 : List Addr} {S1 : Sto} {us : List U} {J : It} {D : Addr} {Q : VK} {E : XK}
    (hsub : ∀ i ∈ tg.slots, i ∈ own) (st1 : St K w F1 H1 rho1 S1) (sl1 : SlotsOk K w F1 H1 rho1 σ sv) (src : Src K w F1 rho1 J us) (hbig : us.length ≤ big) (nD : H1 D = none)
    (q : Post K w mg (relV K w) F1 H1 rho1 (evLc (fun u S2 => match assign tg u (wipeS σ own) with
      | some σ1 => (evC N cf σ1 cs S2).bind fun kk S3 => if kk = true then (evE N cf σ1 e S3).bind fun z S4 => .ok (some z) S4 else .ok none S3
      | none => .bad) us [] S1) Q E) :
    ∃ Wv : Nat → Nat → Hp → Prop, (∃ m, Wv 0 m (upd H1 D (.lst []))) ∧ ∀ i m H, Wv i m H →
      (J.stop i H ∧ Q (.ref D) H) ∨ (J.go i H ∧ ∃ Nx : Hp → Prop, (∀ H', Nx H' → ∃ m', m' < m ∧ Wv (i + 1) m' H') ∧ ∀ x H', J.yld i H x H' → rdG K w tg x (L2.wipe sv own) H' fun s2 H2 => L2.wipe s2 own = L2.wipe sv own ∧ rdK N cf K w mg (fun _ _ _ _ => False) cs s2 H2 fun b H3 =>
        if b = true then rdE N cf K w mg (fun _ _ _ _ => False) e s2 H3 fun y H4 => ∃ acc, H4 D = some (.lst acc) ∧ acc.length < sizeLine ∧ Nx (upd H4 D (.lst (acc ++ [y]))) else Nx H3) := by
  let turn : U → Sto → R (Option U) := fun u S2 => match assign tg u (wipeS σ own) with
      | some σ1 => (evC N cf σ1 cs S2).bind fun kk S3 => if kk = true then (evE N cf σ1 e S3).bind fun z S4 => .ok (some z) S4 else .ok none S3
      | none => .bad
  let Wv : Nat → Nat → Hp → Prop := fun i m Hc => i + m = us.length ∧ ∃ Fc rhoc Sc acc accV, Grow F1 H1 rho1 Fc Hc rhoc ∧ St K w Fc Hc rhoc Sc ∧ Fc D = none ∧ D ∉ rhoc ∧ Hc D = some (.lst accV) ∧ CVs K w Fc rhoc acc accV ∧ acc.length ≤ i ∧
    Post K w mg (relV K w) F1 H1 rho1 (evLc turn (us.drop i) acc Sc) Q E
  refine ⟨Wv, ⟨us.length, by omega, F1, rho1, S1, [], [], Grow.lay nD, st1.lay nD, st1.sub.free nD, st1.new nD, upd_same, .nil, Nat.zero_le _, q⟩, fun i m Hc hw => ?_⟩
  obtain ⟨him, Fc, rhoc, Sc, acc, accV, gc, stc, fD, nrD, hD, ca, hacc, qc⟩ := hw
  cases hu : us[i]? with
  | none =>
    left
    have hi : us.length ≤ i := List.getElem?_eq_none_iff.mp hu
    refine ⟨src.stop i Fc Hc gc.fex stc.sub hi, ?_⟩
    rw [List.drop_eq_nil_of_le hi] at qc
    have g2 : Grow F1 H1 rho1 (upd Fc D (.lst accV)) Hc rhoc := by
      have := gc.froze (o := .lst accV) nD fD
      have e : upd Hc D (.lst accV) = Hc := by
        funext b
        by_cases z : b = D
        · rw [z, upd_same, hD]
        · rw [upd_ne z]
      rw [e] at this
      exact this
    have st2 : St K w (upd Fc D (.lst accV)) Hc rhoc Sc := by
      have := stc.froze (o := .lst accV) fD nrD
      have e : upd Hc D (.lst accV) = Hc := by
        funext b
        by_cases z : b = D
        · rw [z, upd_same, hD]
        · rw [upd_ne z]
      rw [e] at this
      exact this
    exact qc _ _ _ rhoc g2 st2 (.lst upd_same (ca.mono (same_upd fD (Same.refl _)) (Pre.refl _)))
  | some u =>
    right
    have hi : i < us.length := (List.getElem?_eq_some_iff.mp hu).1
    refine ⟨src.go i Fc Hc gc.fex stc.sub hi, fun H' => Wv (i + 1) (m - 1) H', fun H' h => ⟨m - 1, by omega, h⟩, fun x H' hy => ?_⟩
    obtain ⟨F2, g2, s2, k2, cx⟩ := src.yld i u Fc Hc rhoc x H' gc.fex stc.sub gc.rex hu hy
    have st2 := stc.more g2 s2 k2
    have g02 := gc.trans g2
    rw [drop_cons hu] at qc
    have qc' : Post K w mg (relV K w) F1 H1 rho1 ((turn u Sc).bindN fun o S1 => match o with
      | some z => evLc turn (us.drop (i + 1)) (acc ++ [z]) S1
      | none => evLc turn (us.drop (i + 1)) acc S1) Q E := qc
    obtain ⟨f2, n2, h2⟩ := g2.at fD nrD hD
    cases ha : assign tg u (wipeS σ own) with
    | none =>
      simp only [turn, ha, R.bindN_bad] at qc'
      exact qc'.elim
    | some σ1 =>
      simp only [turn, ha, R.bindN_bind] at qc'
      refine ⟨F2, rhoc, Sc, wipeS σ own, u, σ1, st2, ((sl1.grow g02).wipe own), cx, ha, fun F3 H3 sv3 g3 k3 st3 sl3 b3 => ⟨by rw [b3.wiped hsub, wipe_wipe], ?_⟩⟩
      refine ⟨F3, rhoc, σ1, Sc, st3, sl3, (Post.bindN qc').imp fun b H4 ⟨kk, S4, F4, rho4, g4, st4, c4, q4⟩ => ?_⟩
      cases c4
      have g24 := g3.trans g4
      obtain ⟨f4, n4, h4⟩ := g24.at f2 n2 h2
      cases b with
      | false =>
        simp only [Bool.false_eq_true, if_false, R.bindN_ok] at q4 ⊢
        exact ⟨by omega, F4, rho4, S4, acc, accV, g02.trans g24, st4, f4, n4, h4, ca.mono (g2.trans g24).fex (g2.trans g24).rex, by omega, q4⟩
      | true =>
        simp only [if_true, R.bindN_bind, R.bindN_ok] at q4 ⊢
        refine ⟨F4, rho4, σ1, S4, st4, sl3.grow g4, (Post.bindN q4).imp fun y H5 ⟨z, S5, F5, rho5, g5, st5, c5, q5⟩ => ?_⟩
        obtain ⟨f5, n5, h5⟩ := g5.at f4 n4 h4
        have gall := (g2.trans g24).trans g5
        have ca5 := ca.mono gall.fex gall.rex
        refine ⟨accV, h5, ?_, by omega, F5, rho5, S5, acc ++ [z], accV ++ [y], ?_, ?_, f5, n5, upd_same, ca5.append (.cons c5 .nil), by simp; omega, q5⟩
        · have := ca.length
          have hb : big < sizeLine := by decide
          omega
        · have g05 : Grow F1 H1 rho1 F5 H5 rho5 := gc.trans gall
          exact ⟨g05.fex, g05.fnew, g05.rex, g05.rnew, fun a o ea na => by rw [upd_ne (ne_of_none ea nD)]; exact g05.keep a o ea na, fun a ea => by
            by_cases za : a = D
            · subst za; exact nD
            · rw [upd_ne za] at ea; exact g05.dom a ea⟩
        · exact ⟨fun a o ea => by rw [upd_ne (ne_of_none ea f5)]; exact st5.sub a o ea, st5.len, st5.nd, fun n a o e1 e2 => by
            obtain ⟨x1, x2, x3, x4⟩ := st5.sto n a o e1 e2
            have za : a ≠ D := fun za => by
              subst za
              exact n5 (List.mem_of_getElem? e1)
            exact ⟨x1, x2, by rw [upd_ne za]; exact x3, x4⟩⟩
theorem e_lc (ok : XOk N cf k X W) {own : List Nat} {tg : LT} {it : LI} {cs : LK} {e : LE} {elt t iter : Expr} {ifs : List Expr} {scope : Scope} {p : Pos} (ho : ownOk k own scope = true) (hs : setLit iter = false) (hsub : tg.slots.all own.contains = true)
    (hg : ∀ (s : Shared) (H : Hp) (C : Addr) (cl : List (Str × Addr)) (fp : List Addr), PG (X.blk s H scope (compEnvC scope cl C X.env) fp) t (rdG X.K X.w tg))
    (hi : PI X t iter (rdI N cf X.K X.w X.mg W it))
    (ht : ∀ (s : Shared) (H : Hp) (C : Addr) (cl : List (Str × Addr)) (fp : List Addr), PTs (X.blk s H scope (compEnvC scope cl C X.env) fp) ifs (rdK N cf X.K X.w X.mg (fun _ _ _ _ => False) cs))
    (he : ∀ (s : Shared) (H : Hp) (C : Addr) (cl : List (Str × Addr)) (fp : List Addr), PE (X.blk s H scope (compEnvC scope cl C X.env) fp) elt (rdE N cf X.K X.w X.mg (fun _ _ _ _ => False) e)) :
    PE X (.ListComp elt [⟨t, iter, ifs, 0⟩] scope p) (rdE N cf X.K X.w X.mg W (.lc own tg it cs e)) ∧
    ∀ sv H (Q : VK), rdE N cf X.K X.w X.mg W (.lc own tg it cs e) sv H Q → tLc (rdI N cf X.K X.w X.mg W it) (rdG X.K X.w tg) (rdK N cf X.K X.w X.mg (fun _ _ _ _ => False) cs) (rdE N cf X.K X.w X.mg (fun _ _ _ _ => False) e) own sv H Q := by
  have hfold : ∀ x, foldedSetIterable iter X.env x = pure x := fun x => by cases iter <;> first | rfl | cases hs
  have hb : BlkOk X.N X.env.scope scope (own.map fun i => (k.ns.getD i Str.empty, i)) := by
    rw [ok.ns, ok.sc]
    exact blkOk_by ho
  have key : ∀ sv H (Q : VK), rdE N cf X.K X.w X.mg W (.lc own tg it cs e) sv H Q → tLc (rdI N cf X.K X.w X.mg W it) (rdG X.K X.w tg) (rdK N cf X.K X.w X.mg (fun _ _ _ _ => False) cs) (rdE N cf X.K X.w X.mg (fun _ _ _ _ => False) e) own sv H Q := fun sv H Q q => by
    obtain ⟨F, rho, σ, S, st, sl, q⟩ := q
    simp only [evE] at q
    refine ⟨F, rho, σ, S, st, sl, (Post.bind q).imp fun J H1 ⟨us, S1, F1, rho1, g1, st1, src, q1, _⟩ => fun D nD => ?_⟩
    split at q1
    · rename_i hbig
      exact lc_turns (fun i hi => by simpa using List.all_eq_true.mp hsub i hi) st1 (sl.grow g1) src hbig nD q1
    · exact q1.elim
  refine ⟨?_, key⟩
  have := pe_lc (own := own.map fun i => (k.ns.getD i Str.empty, i)) ok.calm ok.nd hi hb hg ht he hfold (pos := p)
  rw [own_map] at this
  exact PE.imp this key
/-! ### walks -/
theorem i_seq {e : LE} {t x : Expr} (h : PE X x (rdE N cf X.K X.w X.mg W e)) : PI X t x (rdI N cf X.K X.w X.mg W (.seq e)) := by
  refine PI.imp (pi_seq h) fun sv H Q q => ?_
  obtain ⟨F, rho, σ, S, st, sl, q⟩ := q
  simp only [evI] at q
  refine ⟨F, rho, σ, S, st, sl, (Post.bind q).imp fun x H1 ⟨u, S1, F1, rho1, g1, st1, c1, q1, _⟩ => ?_⟩
  cases c1 with
  | str z => exact .inl ⟨z, rfl, q1 _ F1 H1 rho1 (Grow.refl _ _ _) st1 (src_str z)⟩
  | tup hq cs => exact .inr ⟨_, rfl, .inr ⟨⟨_, same_t st1.sub hq⟩, q1 _ F1 H1 rho1 (Grow.refl _ _ _) st1 (src_tup hq cs)⟩⟩
  | lst hq cs => exact .inr ⟨_, rfl, .inl ⟨⟨_, SqL.of (st1.sub _ _ hq)⟩, q1 _ F1 H1 rho1 (Grow.refl _ _ _) st1 (src_lst (SqL.of hq) cs)⟩⟩
  | _ => exact q1.elim
theorem i_rng1 (ok : XOk N cf k X W) {b : LE} {t y : Expr} {x : Str} {p p2 : Pos} (hx : x = "range") (hg : glB k.sc x = true) (hs : starred y = false) (h : PE X y (rdE N cf X.K X.w X.mg W b)) : PI X t (.Call (.Name x p) [y] [] p2) (rdI N cf X.K X.w X.mg W (.rng1 b)) := by
  subst hx
  obtain ⟨g1, g2, g3⟩ := ok.gl hg
  refine PI.imp (pi_range1 g1 (ok.free _ (by decide +kernel)) (pa_cons h pa_nil (star_cons hs _ _)) (star_cons hs _ _)) fun sv H Q q => ?_
  obtain ⟨F, rho, σ, S, st, sl, q⟩ := q
  simp only [evI] at q
  refine ⟨F, rho, σ, S, st, sl, (Post.bind q).imp fun x H1 ⟨u, S1, F1, rho1, g1, st1, c1, q1, _⟩ => ?_⟩
  cases c1 with
  | int j =>
    simp only at q1
    split at q1
    · rename_i hj
      refine ⟨j, rfl, by omega, by omega, ?_⟩
      have s := src_rng (K := X.K) (w := X.w) (F := F1) (rho := rho1) 0 j
      rw [Int.sub_zero] at s
      exact q1 _ F1 H1 rho1 (Grow.refl _ _ _) st1 s
    · exact q1.elim
  | _ => exact q1.elim
theorem i_rng2 (ok : XOk N cf k X W) {a b : LE} {t y z : Expr} {x : Str} {p p2 : Pos} (hx : x = "range") (hg : glB k.sc x = true) (hs : starred y = false) (hs2 : starred z = false) (h : PE X y (rdE N cf X.K X.w X.mg W a)) (h2 : PE X z (rdE N cf X.K X.w X.mg W b)) :
    PI X t (.Call (.Name x p) [y, z] [] p2) (rdI N cf X.K X.w X.mg W (.rng2 a b)) := by
  subst hx
  obtain ⟨g1, g2, g3⟩ := ok.gl hg
  have e2 : starEach [z] X.env = [(false, eval z X.env)] := star_cons hs2 [] X.env
  refine PI.imp (pi_range2 g1 (ok.free _ (by decide +kernel)) (pa_cons h (pa_cons h2 pa_nil (star_cons hs2 _ _)) (star_cons hs _ _)) (by rw [star_cons hs, e2]) e2) fun sv H Q q => ?_
  obtain ⟨F, rho, σ, S, st, sl, q⟩ := q
  simp only [evI] at q
  refine ⟨F, rho, σ, S, st, sl, (Post.bind q).imp fun x H1 ⟨u, S1, F1, rho1, g1, st1, c1, q1, _⟩ => ?_⟩
  refine ⟨F1, rho1, σ, S1, st1, sl.grow g1, (Post.bind q1).imp fun y H2 ⟨u2, S2, F2, rho2, g2, st2, c2, q2, _⟩ => ?_⟩
  cases c1 with
  | int i =>
    cases c2 with
    | int j =>
      simp only at q2
      split at q2
      · rename_i hj
        exact ⟨i, j, rfl, ⟨by omega, by omega, by omega, by omega⟩, q2 _ F2 H2 rho2 (Grow.refl _ _ _) st2 (src_rng i j)⟩
      · exact q2.elim
    | _ => exact q2.elim
  | _ => cases c2 <;> exact q2.elim
/-! ### all expressions -/
theorem sndB_of {le : LE} {e : Expr} (ok : XOk N cf k X W) (hc : chkE k le e = true) (h : PE X e (rdE N cf X.K X.w X.mg W le)) : PE X e (rdB N cf X.K X.w X.mg W le) := by
  cases le with
  | b i =>
    cases e with
    | Name x p => exact b_var ok (by unfold chkE at hc; exact hc)
    | _ => unfold chkE at hc; cases hc
  | _ => exact e_b h fun _ => rfl
end
mutual
theorem sndE {N : Cn} {cf : CF} : ∀ (le : LE) {k : Ck} {X : Cx} {W : WX} (e : Expr), XOk N cf k X W → chkE k le e = true → PE X e (rdE N cf X.K X.w X.mg W le)
  | .bad, k, X, W, e, ok, h => ⟨fun pins s σ H Q I q => by
      obtain ⟨F, rho, σ, S, st, sl, q⟩ := q
      exact q.elim⟩
  | .c u, k, X, W, e, ok, h => by
    unfold chkE at h
    split at h
    · rw [eq_of_beq h]
      exact PE.imp pe_int fun sv H Q q => by
        obtain ⟨F, rho, σ, S, st, sl, q⟩ := q
        exact q.val st (.int _)
    · rw [eq_of_beq h]
      exact PE.imp pe_bl fun sv H Q q => by
        obtain ⟨F, rho, σ, S, st, sl, q⟩ := q
        exact q.val st (.bl _)
    · rw [eq_of_beq h]
      exact PE.imp pe_str fun sv H Q q => by
        obtain ⟨F, rho, σ, S, st, sl, q⟩ := q
        exact q.val st (.str _)
    · exact PE.imp pe_non fun sv H Q q => by
        obtain ⟨F, rho, σ, S, st, sl, q⟩ := q
        exact q.val st .non
    · cases h
  | .v i, k, X, W, e, ok, h => by
    unfold chkE at h
    split at h
    · exact e_var ok h
    · cases h
  | .b i, k, X, W, e, ok, h => ⟨fun pins s σ H Q I q => by
      obtain ⟨F, rho, σ, S, st, sl, q⟩ := q
      exact q.elim⟩
  | .xf i f, k, X, W, e, ok, h => by unfold chkE at h; cases h
  | .g x, k, X, W, e, ok, h => by
    unfold chkE at h
    split at h
    · obtain ⟨h1, h2⟩ := ba h
      rw [← eq_of_beq h1]
      exact e_g ok h2
    · cases h
  | .op o a b, k, X, W, e, ok, h => by
    unfold chkE at h
    split at h
    · obtain ⟨h1, h2⟩ := ba h
      obtain ⟨h3, h4⟩ := ba h2
      exact e_op h1 (sndB_of ok h3 (sndE a _ ok h3)) (sndB_of ok h4 (sndE b _ ok h4))
    · cases h
  | .neg a, k, X, W, e, ok, h => by
    unfold chkE at h
    split at h
    · exact e_neg (sndE a _ ok h)
    · cases h
  | .cmp o a b, k, X, W, e, ok, h => by
    unfold chkE at h
    split at h
    · obtain ⟨h1, h2⟩ := ba h
      obtain ⟨h3, h4⟩ := ba h2
      obtain ⟨h5, h6⟩ := ba h4
      exact (e_cmp ok h1 (by simpa using h3) (sndB_of ok h5 (sndE a _ ok h5)) (sndB_of ok h6 (sndE b _ ok h6))).1
    · cases h
  | .chn o o' a b c, k, X, W, e, ok, h => by
    unfold chkE at h
    split at h
    · obtain ⟨h1, h2⟩ := ba h
      obtain ⟨h3, h4⟩ := ba h2
      obtain ⟨h5, h6⟩ := ba h4
      obtain ⟨h7, h8⟩ := ba h6
      obtain ⟨h9, h10⟩ := ba h8
      exact (e_chn ok h1 h3 (by simpa using h5) (sndE a _ ok h7) (sndE b _ ok h9) (sndE c _ ok h10)).1
    · cases h
  | .not a, k, X, W, e, ok, h => by
    unfold chkE at h
    split at h
    · exact e_not (sndE a _ ok h)
    · cases h
  | .and a b, k, X, W, e, ok, h => by
    unfold chkE at h
    split at h
    · obtain ⟨h1, h2⟩ := ba h
      exact PE.imp (pe_and (sndE a _ ok h1) (pe_one (sndE b _ ok h2))) fun sv H Q q => vand q
    · obtain ⟨h1, h2⟩ := ba h
      exact PE.imp (pe_and (sndE a _ ok h1) (sndE b _ ok h2)) fun sv H Q q => vand q
    · cases h
  | .or a b, k, X, W, e, ok, h => by
    unfold chkE at h
    split at h
    · obtain ⟨h1, h2⟩ := ba h
      exact PE.imp (pe_or (sndE a _ ok h1) (pe_one (sndE b _ ok h2))) fun sv H Q q => vor q
    · obtain ⟨h1, h2⟩ := ba h
      exact PE.imp (pe_or (sndE a _ ok h1) (sndE b _ ok h2)) fun sv H Q q => vor q
    · cases h
  | .ite t a b, k, X, W, e, ok, h => by
    unfold chkE at h
    split at h
    · obtain ⟨h1, h2⟩ := ba h
      obtain ⟨h3, h4⟩ := ba h2
      exact e_ite (sndC t _ ok h1).pt (sndE a _ ok h3) (sndE b _ ok h4)
    · cases h
  | .tup es, k, X, W, e, ok, h => by
    unfold chkE at h
    split at h
    · exact e_tup (sndEs es _ ok h)
    · cases h
  | .lst es, k, X, W, e, ok, h => by
    unfold chkE at h
    split at h
    · exact e_lst (sndEs es _ ok h)
    · cases h
  | .sto es, k, X, W, e, ok, h => by
    unfold chkE at h
    split at h
    · exact e_sto (sndEs es _ ok h)
    · cases h
  | .dct ks es, k, X, W, e, ok, h => by
    unfold chkE at h
    split at h
    · obtain ⟨h1, h2⟩ := ba h
      obtain ⟨h3, h4⟩ := ba h2
      obtain ⟨h5, h6⟩ := ba h4
      obtain ⟨h7, h8⟩ := ba h6
      exact e_dctL h1 (of_decide_eq_true h3) (by intro z; subst z; cases h5) (of_decide_eq_true h7) h8 (sndL es _ ok h8)
    · cases h
  | .sub a i, k, X, W, e, ok, h => by
    unfold chkE at h
    split at h
    · obtain ⟨h1, h2⟩ := ba h
      obtain ⟨h3, h4⟩ := ba h2
      exact e_sub ok (by simpa using h1) (sndB_of ok h3 (sndE a _ ok h3)) (sndE i _ ok h4)
    · cases h
  | .slc a lo hi, k, X, W, e, ok, h => by
    unfold chkE at h
    split at h
    · obtain ⟨h1, h2⟩ := ba h
      obtain ⟨h3, h4⟩ := ba h2
      exact e_slc (sndB_of ok h1 (sndE a _ ok h1)) (sndO lo _ ok h3) (sndO hi _ ok h4)
    · cases h
  | .fn f a, k, X, W, e, ok, h => by
    unfold chkE at h
    split at h
    · obtain ⟨h1, h2⟩ := ba h
      obtain ⟨h3, h4⟩ := ba h2
      obtain ⟨h5, h6⟩ := ba h4
      exact e_fn ok (eq_of_beq h1) h3 (by simpa using h5) (sndB_of ok h6 (sndE a _ ok h6))
    · cases h
  | .isi a t, k, X, W, e, ok, h => by
    unfold chkE at h
    split at h
    · obtain ⟨h1, h2⟩ := ba h
      obtain ⟨h3, h4⟩ := ba h2
      obtain ⟨h5, h6⟩ := ba h4
      obtain ⟨h7, h8⟩ := ba h6
      obtain ⟨h9, h10⟩ := ba h8
      exact e_isi ok (eq_of_beq h1) h3 (by simpa using h5) (eq_of_beq h7) h9 (sndE a _ ok h10)
    · cases h
  | .isiT a ts, k, X, W, e, ok, h => by
    unfold chkE at h
    split at h
    · obtain ⟨h1, h2⟩ := ba h
      obtain ⟨h3, h4⟩ := ba h2
      obtain ⟨h5, h6⟩ := ba h4
      obtain ⟨h7, h8⟩ := ba h6
      exact e_isiT ok (eq_of_beq h1) h3 (by simpa using h5) h7 (sndE a _ ok h8)
    · cases h
  | .call f es, k, X, W, e, ok, h => by
    unfold chkE at h
    split at h
    · obtain ⟨h1, h2⟩ := ba h
      obtain ⟨h3, h4⟩ := ba h2
      obtain ⟨h5, h6⟩ := ba h4
      exact e_call ok (eq_of_beq h1) h3 (by intro z; subst z; cases h5) h6 (sndEs es _ ok h6)
    · cases h
  | .lc own tg it cs a, k, X, W, e, ok, h => by
    unfold chkE at h
    split at h
    · obtain ⟨h1, h2⟩ := ba h
      obtain ⟨h3, h4⟩ := ba h2
      obtain ⟨h5, h6⟩ := ba h4
      obtain ⟨h7, h8⟩ := ba h6
      obtain ⟨h9, h10⟩ := ba h8
      obtain ⟨h11, h12⟩ := ba h10
      exact (e_lc ok h1 (by simpa using h3) h5 (fun s H C cl fp => g_all ok.blk tg _ h7) (sndI it _ _ ok h9) (fun s H C cl fp => sndK cs _ ok.blk h11) (fun s H C cl fp => sndE a _ ok.blk h12)).1
    · cases h
  | .m1 m a b, k, X, W, e, ok, h => by
    unfold chkE at h
    split at h
    · obtain ⟨h1, h2⟩ := ba h
      obtain ⟨h3, h4⟩ := ba h2
      obtain ⟨h5, h6⟩ := ba h4
      obtain ⟨h7, h8⟩ := ba h6
      obtain ⟨h9, ha⟩ := ba h8
      exact e_m1 ok (eq_of_beq h1) h3 (by simpa using h5) (by simpa using h7) (sndE a _ ok h9) (sndB_of ok ha (sndE b _ ok ha))
    · cases h
  | .fs es, k, X, W, e, ok, h => by
    unfold chkE at h
    split at h
    · exact e_fs (sndJ es _ ok h)
    · cases h
  | .fv a, k, X, W, e, ok, h => by
    unfold chkE at h
    split at h
    · obtain ⟨h1, h2⟩ := ba h
      rw [eq_of_beq h1]
      exact e_fv (sndE a _ ok h2)
    · cases h
theorem sndJ {N : Cn} {cf : CF} : ∀ (le : LEs) {k : Ck} {X : Cx} {W : WX} (e : List Expr), XOk N cf k X W → chkEs k le e = true → EachJ N cf X W le e
  | .nil, k, X, W, [], ok, h => trivial
  | .nil, k, X, W, _ :: _, ok, h => by cases h
  | .cons e es, k, X, W, [], ok, h => by cases h
  | .cons e es, k, X, W, x :: xs, ok, h => by
    unfold chkEs at h
    obtain ⟨h1, h2⟩ := ba h
    obtain ⟨h3, h4⟩ := ba h2
    exact ⟨sndE e x ok h3, sndJ es xs ok h4⟩
theorem sndEs {N : Cn} {cf : CF} : ∀ (le : LEs) {k : Ck} {X : Cx} {W : WX} (e : List Expr), XOk N cf k X W → chkEs k le e = true → PA X e (rdEs N cf X.K X.w X.mg W le)
  | .nil, k, X, W, [], ok, h => es_nil
  | .nil, k, X, W, _ :: _, ok, h => by cases h
  | .cons e es, k, X, W, [], ok, h => by cases h
  | .cons e es, k, X, W, x :: xs, ok, h => by
    unfold chkEs at h
    obtain ⟨h1, h2⟩ := ba h
    obtain ⟨h3, h4⟩ := ba h2
    exact es_cons (by simpa using h1) (sndE e x ok h3) (sndEs es xs ok h4)
/-- each of a list -/
theorem sndL {N : Cn} {cf : CF} : ∀ (le : LEs) {k : Ck} {X : Cx} {W : WX} (e : List Expr), XOk N cf k X W → chkEs k le e = true → EachE N cf X W le e
  | .nil, k, X, W, [], ok, h => trivial
  | .nil, k, X, W, _ :: _, ok, h => by cases h
  | .cons e es, k, X, W, [], ok, h => by cases h
  | .cons e es, k, X, W, x :: xs, ok, h => by
    unfold chkEs at h
    obtain ⟨h1, h2⟩ := ba h
    obtain ⟨h3, h4⟩ := ba h2
    exact ⟨sndE e x ok h3, sndL es xs ok h4⟩
theorem sndO {N : Cn} {cf : CF} : ∀ (le : LO) {k : Ck} {X : Cx} {W : WX} (e : Option Expr), XOk N cf k X W → chkO k le e = true → PO X e (rdO N cf X.K X.w X.mg W le)
  | .non, k, X, W, none, ok, h => o_non
  | .non, k, X, W, some _, ok, h => by cases h
  | .som e, k, X, W, none, ok, h => by cases h
  | .som e, k, X, W, some x, ok, h => o_som (sndE e x ok h)
theorem sndC {N : Cn} {cf : CF} : ∀ (le : LC) {k : Ck} {X : Cx} {W : WX} (e : Expr), XOk N cf k X W → chkC k le e = true → PWT X e (rdT N cf X.K X.w X.mg W le)
  | .and a b, k, X, W, e, ok, h => by
    unfold chkC at h
    split at h
    · obtain ⟨h1, h2⟩ := ba h
      exact .w (PW.imp (pw_and (sndC a _ ok h1).pt (pw_and1 (sndC b _ ok h2).pt)) fun sv H Q q => tand q)
    · obtain ⟨h1, h2⟩ := ba h
      exact .w (PW.imp (pw_and (sndC a _ ok h1).pt ((sndC b _ ok h2).pw rfl)) fun sv H Q q => tand q)
    · cases h
  | .or a b, k, X, W, e, ok, h => by
    unfold chkC at h
    split at h
    · obtain ⟨h1, h2⟩ := ba h
      exact .w (PW.imp (pw_or (sndC a _ ok h1).pt (pw_or1 (sndC b _ ok h2).pt)) fun sv H Q q => tor q)
    · obtain ⟨h1, h2⟩ := ba h
      exact .w (PW.imp (pw_or (sndC a _ ok h1).pt ((sndC b _ ok h2).pw rfl)) fun sv H Q q => tor q)
    · cases h
  | .not a, k, X, W, e, ok, h => by
    unfold chkC at h
    split at h
    · exact .t rfl (t_not (sndC a _ ok h).pt)
    · cases h
  | .cmp o a b, k, X, W, e, ok, h => by
    unfold chkC at h
    split at h
    · obtain ⟨h1, h2⟩ := ba h
      obtain ⟨h3, h4⟩ := ba h2
      obtain ⟨h5, h6⟩ := ba h4
      exact .t rfl (e_cmp ok h1 (by simpa using h3) (sndB_of ok h5 (sndE a _ ok h5)) (sndB_of ok h6 (sndE b _ ok h6))).2
    · cases h
  | .chn o o' a b c, k, X, W, e, ok, h => by
    unfold chkC at h
    split at h
    · obtain ⟨h1, h2⟩ := ba h
      obtain ⟨h3, h4⟩ := ba h2
      obtain ⟨h5, h6⟩ := ba h4
      obtain ⟨h7, h8⟩ := ba h6
      obtain ⟨h9, h10⟩ := ba h8
      exact .t rfl (e_chn ok h1 h3 (by simpa using h5) (sndE a _ ok h7) (sndE b _ ok h9) (sndE c _ ok h10)).2
    · cases h
  | .e a, k, X, W, e, ok, h => by
    unfold chkC at h
    obtain ⟨h1, h2⟩ := ba h
    refine .t ?_ (t_plain h1 (sndE a _ ok h2))
    cases e <;> first | rfl | cases h1
theorem sndK {N : Cn} {cf : CF} : ∀ (le : LK) {k : Ck} {X : Cx} {W : WX} (e : List Expr), XOk N cf k X W → chkK k le e = true → PTs X e (rdK N cf X.K X.w X.mg W le)
  | .non, k, X, W, [], ok, h => PTs.imp pts_nil fun sv H Q q => by
    obtain ⟨F, rho, σ, S, st, sl, q⟩ := q
    exact q true F H rho (Grow.refl _ _ _) st rfl
  | .non, k, X, W, _ :: _, ok, h => by cases h
  | .som c, k, X, W, [], ok, h => by cases h
  | .som c, k, X, W, [x], ok, h => PTs.imp (pts_one (sndC c x ok h).pt) fun sv H Q q => q
  | .som c, k, X, W, _ :: _ :: _, ok, h => by cases h
theorem sndI {N : Cn} {cf : CF} : ∀ (le : LI) {k : Ck} {X : Cx} {W : WX} (t e : Expr), XOk N cf k X W → chkI k le e = true → PI X t e (rdI N cf X.K X.w X.mg W le)
  | .seq a, k, X, W, t, e, ok, h => i_seq (sndE a e ok h)
  | .rng1 b, k, X, W, t, e, ok, h => by
    unfold chkI at h
    split at h
    · obtain ⟨h1, h2⟩ := ba h
      obtain ⟨h3, h4⟩ := ba h2
      obtain ⟨h5, h6⟩ := ba h4
      exact i_rng1 ok (eq_of_beq h1) h3 (by simpa using h5) (sndE b _ ok h6)
    · cases h
  | .rng2 a b, k, X, W, t, e, ok, h => by
    unfold chkI at h
    split at h
    · obtain ⟨h1, h2⟩ := ba h
      obtain ⟨h3, h4⟩ := ba h2
      obtain ⟨h5, h6⟩ := ba h4
      obtain ⟨h7, h8⟩ := ba h6
      obtain ⟨h9, h10⟩ := ba h8
      exact i_rng2 ok (eq_of_beq h1) h3 (by simpa using h5) (by simpa using h7) (sndE a _ ok h9) (sndE b _ ok h10)
    · cases h
end
end Far

set_option Elab.async false
set_option linter.all false
set_option maxRecDepth 100000
set_option maxHeartbeats 4000000
/-! Statements. -/
namespace Far
open PySem PySem.Spec PyProof.Rows L2

/-- the state of a body that was entered at F0, H0, rho0 -/
structure FS (K : PySem.W.Frag) (w : World) (F0 H0 : Hp) (rho0 : List Addr) (F H : Hp) (rho : List Addr) (S : Sto) (σ : Slots) (sv : L2.St) : Prop where
  st : St K w F H rho S
  sl : SlotsOk K w F H rho σ sv
  gr : Grow F0 H0 rho0 F H rho
  fr : ∀ (i : Nat) (us : List U) (p : Addr), σ[i]? = some (.own us) → sv[i]? = some (some (.ref p)) → H0 p = none
section
variable {K : PySem.W.Frag} {w : World} {mg : Str → Option Value} {F0 H0 : Hp} {rho0 : List Addr}
theorem FS.grow {F H F' H' : Hp} {rho rho' : List Addr} {S S' : Sto} {σ : Slots} {sv : L2.St} (h : FS K w F0 H0 rho0 F H rho S σ sv) (g : Grow F H rho F' H' rho') (st : St K w F' H' rho' S') : FS K w F0 H0 rho0 F' H' rho' S' σ sv := ⟨st, h.sl.grow g, h.gr.trans g, h.fr⟩
/-- what is wanted behind a statement that was begun with Fs frozen, the store at rs -/
def PostS (K : PySem.W.Frag) (w : World) (mg : Str → Option Value) (F0 H0 : Hp) (rho0 : List Addr) (Fs : Hp) (rs : List Addr) (r : RS) (D : Ends) (W : WX) : Prop := match r with
  | .nx σ S => ∀ F H rho sv, FS K w F0 H0 rho0 F H rho S σ sv → Same Fs F → Pre rs rho → D.nx sv H
  | .rt u S => ∀ v F H rho, Grow F0 H0 rho0 F H rho → St K w F H rho S → CV K w F rho u v → D.rt v H
  | .bk σ S => ∀ F H rho sv, FS K w F0 H0 rho0 F H rho S σ sv → Same Fs F → Pre rs rho → D.bk sv H
  | .ct σ S => ∀ F H rho sv, FS K w F0 H0 rho0 F H rho S σ sv → Same Fs F → Pre rs rho → D.ct sv H
  | .exc x σ S => ∀ c d F H rho sv, FS K w F0 H0 rho0 F H rho S σ sv → Same Fs F → Pre rs rho → XR K w mg F rho x c d → W c d sv H
  | .bad => False
theorem PostS.mono {Fs Fs' : Hp} {rs rs' : List Addr} {r : RS} {D : Ends} {W : WX} (h : PostS K w mg F0 H0 rho0 Fs rs r D W) (e : Same Fs Fs') (p : Pre rs rs') : PostS K w mg F0 H0 rho0 Fs' rs' r D W := by
  cases r with
  | nx σ S => exact fun F H rho sv fs a b => h F H rho sv fs (e.trans a) (p.trans b)
  | rt u S => exact h
  | bk σ S => exact fun F H rho sv fs a b => h F H rho sv fs (e.trans a) (p.trans b)
  | ct σ S => exact fun F H rho sv fs a b => h F H rho sv fs (e.trans a) (p.trans b)
  | exc x σ S => exact fun c d F H rho sv fs a b xr => h c d F H rho sv fs (e.trans a) (p.trans b) xr
  | bad => exact h
theorem PostS.expr {α β : Type} {rel : Hp → Hp → List Addr → α → β → Prop} {F H : Hp} {rho : List Addr} {S : Sto} {σ : Slots} {sv : L2.St} {r : R α} {kk : α → Sto → RS} {D : Ends} {W : WX} (fs : FS K w F0 H0 rho0 F H rho S σ sv) (h : PostS K w mg F0 H0 rho0 F rho (r.then σ kk) D W) :
    Post K w mg rel F H rho r (fun b H1 => ∃ a S1 F1 rho1, FS K w F0 H0 rho0 F1 H1 rho1 S1 σ sv ∧ rel F1 H1 rho1 a b ∧ PostS K w mg F0 H0 rho0 F1 rho1 (kk a S1) D W ∧ Grow F H rho F1 H1 rho1) (WE W sv) := by
  cases r with
  | ok a S1 => exact fun b F' H' rho' g st c => ⟨a, S1, F', rho', fs.grow g st, c, PostS.mono h g.fex g.rex, g⟩
  | exc x S1 => exact fun c d F' H' rho' g st xr => h c d F' H' rho' sv (fs.grow g st) g.fex g.rex xr
  | bad => exact h
end
def rdS (N : Cn) (cf : CF) (K : PySem.W.Frag) (w : World) (mg : Str → Option Value) (F0 H0 : Hp) (rho0 : List Addr) (W : WX) (s : LS) : TS := fun D sv H => ∃ F rho σ S, FS K w F0 H0 rho0 F H rho S σ sv ∧ PostS K w mg F0 H0 rho0 F rho (evS N cf s σ S) D W
def rdSs (N : Cn) (cf : CF) (K : PySem.W.Frag) (w : World) (mg : Str → Option Value) (F0 H0 : Hp) (rho0 : List Addr) (W : WX) (s : LSs) : TS := fun D sv H => ∃ F rho σ S, FS K w F0 H0 rho0 F H rho S σ sv ∧ PostS K w mg F0 H0 rho0 F rho (evSs N cf s σ S) D W
theorem PS.imp {X : Cx} {s : Stmt} {t t' : TS} (h : PS X s t) (q : ∀ D sv H, t' D sv H → t D sv H) : PS X s t' := ⟨fun pins s σ H D I z => h.run pins s σ H D I (q _ _ _ z)⟩
theorem PSs.imp {X : Cx} {s : List Stmt} {t t' : TS} (h : PSs X s t) (q : ∀ D sv H, t' D sv H → t D sv H) : PSs X s t' := ⟨fun pins s σ H D I z => h.run pins s σ H D I (q _ _ _ z)⟩

/-! ### own slots behind an assignment -/
theorem own_set {σ : Slots} {i j : Nat} {u : U} {us : List U} (h : (σ.set i (.val u))[j]? = some (.own us)) : j ≠ i ∧ σ[j]? = some (.own us) := by
  by_cases z : i = j
  · subst z
    have hi : i < σ.length := by
      have := (List.getElem?_eq_some_iff.mp h).1
      simpa using this
    rw [List.getElem?_set_self hi] at h
    cases h
  · rw [List.getElem?_set_ne z] at h
    exact ⟨Ne.symm z, h⟩
theorem own_setAll : ∀ {is : List Nat} {us : List U} {σ : Slots} {j : Nat} {ws : List U}, us.length = is.length → (assign.setAll is us σ)[j]? = some (.own ws) → j ∉ is ∧ σ[j]? = some (.own ws)
  | [], us, σ, j, ws, _, h => by unfold assign.setAll at h; exact ⟨by simp, h⟩
  | i :: is, [], σ, j, ws, l, h => by cases l
  | i :: is, u :: us, σ, j, ws, l, h => by
    unfold assign.setAll at h
    obtain ⟨h1, h2⟩ := own_setAll (by simpa using l) h
    obtain ⟨h3, h4⟩ := own_set h2
    exact ⟨by simp [h1, h3], h4⟩
mutual
theorem own_assign : ∀ {t : LT} {u : U} {σ σ' : Slots} {j : Nat} {ws : List U}, assign t u σ = some σ' → σ'[j]? = some (.own ws) → j ∉ t.slots ∧ σ[j]? = some (.own ws)
  | .nm i, u, σ, σ', j, ws, e, h => by
    unfold assign at e
    cases e
    obtain ⟨h1, h2⟩ := own_set h
    exact ⟨by simpa [LT.slots] using h1, h2⟩
  | .tp ts, u, σ, σ', j, ws, e, h => by
    unfold assign at e
    cases u with
    | tup us =>
      simp only at e
      have := own_assigns e h
      simpa [LT.slots] using this
    | _ => cases e
  | .st is i, u, σ, σ', j, ws, e, h => by
    have key : ∀ us : List U, is.length ≤ us.length → ((assign.setAll is us σ).set i (.val (.lst (us.drop is.length))))[j]? = some (.own ws) → j ∉ (LT.st is i).slots ∧ σ[j]? = some (.own ws) := fun us hl h => by
      obtain ⟨h1, h2⟩ := own_set h
      rw [setAll_take] at h2
      obtain ⟨h3, h4⟩ := own_setAll (by simp; omega) h2
      exact ⟨by simp [LT.slots, h1, h3], h4⟩
    unfold assign at e
    cases u with
    | tup us =>
      simp only at e
      split at e
      · rename_i hl; cases e; exact key us hl h
      · cases e
    | lst us =>
      simp only at e
      split at e
      · rename_i hl; cases e; exact key us hl h
      · cases e
    | _ => cases e
theorem own_assigns : ∀ {ts : List LT} {us : List U} {σ σ' : Slots} {j : Nat} {ws : List U}, assign.assigns ts us σ = some σ' → σ'[j]? = some (.own ws) → j ∉ LT.slotss ts ∧ σ[j]? = some (.own ws)
  | [], [], σ, σ', j, ws, e, h => by
    unfold assign.assigns at e
    cases e
    exact ⟨by simp [LT.slotss], h⟩
  | [], _ :: _, _, _, _, _, e, _ => by unfold assign.assigns at e; cases e
  | _ :: _, [], _, _, _, _, e, _ => by unfold assign.assigns at e; cases e
  | t :: ts, u :: us, σ, σ', j, ws, e, h => by
    unfold assign.assigns at e
    simp only [Option.bind_eq_some_iff] at e
    obtain ⟨σ1, e1, e2⟩ := e
    obtain ⟨h1, h2⟩ := own_assigns e2 h
    obtain ⟨h3, h4⟩ := own_assign e1 h2
    exact ⟨by simp [LT.slotss, h1, h3], h4⟩
end
/-! ### how a tuple is stored -/
def blockK (sc : Scope) : ScopeKind := if sc.kind.isAnnotationScope then .function else sc.kind
def nameAt (sc : Scope) (line : Nat) : Expr → Option Str
  | .Name id pos => if sc.names.lookup id == some .local && pos.line == line then some id else none
  | _ => none
def swapV (sc : Scope) (ts vs : List Expr) : Option (Option (List Str)) :=
  if (!(ts.length == 2 || ts.length == 3) || vs.length != ts.length || blockK sc != .function) = true then some none else
  if vs.any starred = true then some none else
  if ((ts.filterMap (nameAt sc ((ts.head?.map (·.pos.line)).getD 0))).length != ts.length || (ts.filterMap (nameAt sc ((ts.head?.map (·.pos.line)).getD 0))).eraseDups.length != (ts.filterMap (nameAt sc ((ts.head?.map (·.pos.line)).getD 0))).length) = true then some none else
  if vs.all (foldedForSure 8) = true then some none else
  if vs.all (constantsAlone 8) = true then none else some (some (ts.filterMap (nameAt sc ((ts.head?.map (·.pos.line)).getD 0))))
theorem swap_eq (env : Env) (ts vs : List Expr) (n m : Nat) (p q : Pos) : swappedStores [.Tuple ts n p] (.Tuple vs m q) env =
    if (!(ts.length == 2 || ts.length == 3) || vs.length != ts.length || blockK env.scope != .function) = true then pure none else
    if vs.any starred = true then pure none else
    if ((ts.filterMap (nameAt env.scope ((ts.head?.map (·.pos.line)).getD 0))).length != ts.length || (ts.filterMap (nameAt env.scope ((ts.head?.map (·.pos.line)).getD 0))).eraseDups.length != (ts.filterMap (nameAt env.scope ((ts.head?.map (·.pos.line)).getD 0))).length) = true then pure none else
    if vs.all (foldedForSure 8) = true then pure none else
    if vs.all (constantsAlone 8) = true then (unsupported "assign.tuple-of-constant-expressions:order-of-the-stores") else pure (some (ts.filterMap (nameAt env.scope ((ts.head?.map (·.pos.line)).getD 0)))) := rfl
theorem swapV_ok {env : Env} {sc : Scope} (hsc : env.scope = sc) {ts vs : List Expr} {n m : Nat} {p q : Pos} {r : Option (List Str)} (h : swapV sc ts vs = some r) : swappedStores [.Tuple ts n p] (.Tuple vs m q) env = pure r := by
  subst hsc
  rw [swap_eq]
  unfold swapV at h
  split at h
  · rename_i h1
    cases h
    rw [if_pos h1]
  · rename_i h1
    rw [if_neg h1]
    split at h
    · rename_i h2
      cases h
      rw [if_pos h2]
    · rename_i h2
      rw [if_neg h2]
      split at h
      · rename_i h3
        cases h
        rw [if_pos h3]
      · rename_i h3
        rw [if_neg h3]
        split at h
        · rename_i h4
          cases h
          rw [if_pos h4]
        · rename_i h4
          rw [if_neg h4]
          split at h
          · cases h
          · rename_i h5
            cases h
            rw [if_neg h5]
/-- no swapped stores -/
def noSwap (sc : Scope) (tg v : Expr) : Bool := match tg, v with
  | .Tuple ts _ _, .Tuple vs _ _ => (swapV sc ts vs).any (·.isNone)
  | .List _ _, .Tuple _ _ _ => false
  | _, _ => true
theorem noSwap_ok {env : Env} {sc : Scope} (hsc : env.scope = sc) {tg v : Expr} (h : noSwap sc tg v = true) : swappedStores [tg] v env = pure none := by
  cases tg with
  | Tuple ts n p =>
    cases v with
    | Tuple vs m q =>
      have h' : (swapV sc ts vs).any (·.isNone) = true := h
      cases e : swapV sc ts vs with
      | none => rw [e] at h'; cases h'
      | some r =>
        rw [e] at h'
        cases r with
        | none => exact swapV_ok hsc e
        | some x => cases h'
    | _ => rfl
  | List ts p =>
    cases v with
    | Tuple vs m q => cases h
    | _ => rfl
  | _ => rfl
def comp : Expr → Bool
  | .ListComp .. => true
  | .SetComp .. => true
  | .DictComp .. => true
  | _ => false
theorem sw_plain {v : Expr} (h : comp v = false) (t : Option Expr) (l : Nat) (env : Env) : swapsWith v t l env = pure false := by
  cases v <;> first | rfl | cases h
theorem sws_plain {v : Expr} (h : comp v = false) (t : Expr) (l : Nat) (env : Env) : swapsWithSole [t] v l env = pure false := sw_plain h _ _ _
section
variable {N : Cn} {cf : CF} {k : Ck} {X : Cx} {W : WX} {F0 H0 : Hp} {rho0 : List Addr}
theorem each_one {tg : Expr} (h : starred tg = false) (env : Env) : (assignEach [tg] env).map (·.2) = [PySem.assign tg env] := by
  rw [each_cons h]
  rfl
/-- the state behind an assignment -/
theorem FS.assign {K : PySem.W.Frag} {w : World} {F H F' H' : Hp} {rho : List Addr} {S : Sto} {σ σ' : Slots} {sv sv' : L2.St} {t : LT} {u : U} (fs : FS K w F0 H0 rho0 F H rho S σ sv) (e : Far.assign t u σ = some σ') (g : Grow F H rho F' H' rho) (st : St K w F' H' rho S) (sl : SlotsOk K w F' H' rho σ' sv') (b : But t.slots sv sv') :
    FS K w F0 H0 rho0 F' H' rho S σ' sv' := ⟨st, sl, fs.gr.trans g, fun i us p h1 h2 => by
      obtain ⟨h3, h4⟩ := own_assign e h1
      rw [b.2 i h3] at h2
      exact fs.fr i us p h4 h2⟩
theorem s_asg {t : LT} {e : LE} {tg v : Expr} {p : Pos} (hst : starred tg = false) (hc : comp v = false) (hw : noSwap k.sc tg v = true) (ok : XOk N cf k X W) (he : PE X v (rdE N cf X.K X.w X.mg W e)) (hg : PG X tg (rdG X.K X.w t)) :
    PS X (.Assign [tg] v p) (rdS N cf X.K X.w X.mg F0 H0 rho0 W (.asg t e)) := by
  refine PS.imp (ps_asg he hg (sws_plain hc _ _ _) (noSwap_ok ok.sc hw) (each_one hst _)) fun D sv H q => ?_
  obtain ⟨F, rho, σ, S, fs, q⟩ := q
  simp only [evS] at q
  refine ⟨F, rho, σ, S, fs.st, fs.sl, (q.expr fs).imp fun x H1 ⟨u, S1, F1, rho1, fs1, c1, q1, _⟩ => ?_⟩
  cases ea : Far.assign t u σ with
  | none => rw [ea] at q1; exact q1.elim
  | some σ' =>
    rw [ea] at q1
    exact ⟨F1, rho1, S1, σ, u, σ', fs1.st, fs1.sl, c1, ea, fun F' H' sv' g kk st sl b => q1 F' H' rho1 sv' (fs1.assign ea g st sl b) g.fex g.rex⟩
theorem s_ex {e : LE} {v : Expr} {p : Pos} (hc : comp v = false) (he : PE X v (rdE N cf X.K X.w X.mg W e)) : PS X (.Expr v p) (rdS N cf X.K X.w X.mg F0 H0 rho0 W (.ex e)) := by
  refine PS.imp (ps_expr he (sw_plain hc _ _ _)) fun D sv H q => ?_
  obtain ⟨F, rho, σ, S, fs, q⟩ := q
  simp only [evS] at q
  exact ⟨F, rho, σ, S, fs.st, fs.sl, (q.expr fs).imp fun x H1 ⟨u, S1, F1, rho1, fs1, c1, q1, _⟩ => q1 F1 H1 rho1 sv fs1 (Same.refl _) (Pre.refl _)⟩
theorem s_ret {e : LE} {v : Expr} {p : Pos} (he : PE X v (rdE N cf X.K X.w X.mg W e)) : PS X (.Return (some v) p) (rdS N cf X.K X.w X.mg F0 H0 rho0 W (.ret e)) := by
  refine PS.imp (ps_ret he) fun D sv H q => ?_
  obtain ⟨F, rho, σ, S, fs, q⟩ := q
  simp only [evS] at q
  exact ⟨F, rho, σ, S, fs.st, fs.sl, (q.expr fs).imp fun x H1 ⟨u, S1, F1, rho1, fs1, c1, q1, _⟩ => q1 x F1 H1 rho1 fs1.gr fs1.st c1⟩
theorem s_ite {t : LC} {a b : LSs} {c : Expr} {x y : List Stmt} {p : Pos} (hc : PT X c (rdT N cf X.K X.w X.mg W t)) (ha : PSs X x (rdSs N cf X.K X.w X.mg F0 H0 rho0 W a)) (hb : PSs X y (rdSs N cf X.K X.w X.mg F0 H0 rho0 W b)) :
    PS X (.If c x y p) (rdS N cf X.K X.w X.mg F0 H0 rho0 W (.ite t a b)) := by
  refine PS.imp (ps_if hc ha hb) fun D sv H q => ?_
  obtain ⟨F, rho, σ, S, fs, q⟩ := q
  simp only [evS] at q
  refine ⟨F, rho, σ, S, fs.st, fs.sl, (q.expr fs).imp fun x H1 ⟨u, S1, F1, rho1, fs1, c1, q1, _⟩ => ?_⟩
  cases c1
  cases x with
  | true => exact ite_tt ⟨F1, rho1, σ, S1, fs1, q1⟩
  | false => exact ite_ff ⟨F1, rho1, σ, S1, fs1, q1⟩
theorem ss_nil : PSs X [] (rdSs N cf X.K X.w X.mg F0 H0 rho0 W .nil) := PSs.imp pss_nil fun D sv H q => by
  obtain ⟨F, rho, σ, S, fs, q⟩ := q
  exact q F H rho sv fs (Same.refl _) (Pre.refl _)
theorem ss_cons {s : LS} {ss : LSs} {x : Stmt} {xs : List Stmt} (h : PS X x (rdS N cf X.K X.w X.mg F0 H0 rho0 W s)) (hs : PSs X xs (rdSs N cf X.K X.w X.mg F0 H0 rho0 W ss)) : PSs X (x :: xs) (rdSs N cf X.K X.w X.mg F0 H0 rho0 W (.cons s ss)) := by
  refine PSs.imp (pss_cons h hs) fun D sv H q => ?_
  obtain ⟨F, rho, σ, S, fs, q⟩ := q
  simp only [evSs] at q
  refine ⟨F, rho, σ, S, fs, ?_⟩
  cases e : evS N cf s σ S with
  | nx σ1 S1 =>
    rw [e] at q
    exact fun F1 H1 rho1 sv1 fs1 e p => ⟨F1, rho1, σ1, S1, fs1, PostS.mono q e p⟩
  | rt u S1 => rw [e] at q; exact q
  | bk σ1 S1 => rw [e] at q; exact q
  | ct σ1 S1 => rw [e] at q; exact q
  | exc x σ1 S1 => rw [e] at q; exact q
  | bad => rw [e] at q; exact q
/-! ### loops -/
theorem s_loop (ok : XOk N cf k X W) (hp : PassesOwn (model X.prog X.w) X.A X.env X.xe) {t : LT} {it : LI} {body : LSs} {tg iter : Expr} {xs : List Stmt} {p : Pos} (hs : setLit iter = false) (hi : PI X tg iter (rdI N cf X.K X.w X.mg W it)) (hg : PG X tg (rdG X.K X.w t))
    (hb : PSs X xs (rdSs N cf X.K X.w X.mg F0 H0 rho0 W body)) : PS X (.For tg iter xs [] p) (rdS N cf X.K X.w X.mg F0 H0 rho0 W (.loop t it body)) := by
  have hfold : ∀ x, foldedSetIterable iter X.env x = pure x := fun x => by cases iter <;> first | rfl | cases hs
  refine PS.imp (ps_for hp ok.calm hi hg hb hfold) fun D sv H q => ?_
  obtain ⟨F, rho, σ, S, fs, q⟩ := q
  simp only [evS] at q
  refine ⟨F, rho, σ, S, fs.st, fs.sl, (q.expr fs).imp fun J H1 ⟨us, S1, F1, rho1, fs1, src, q1, _⟩ => ?_⟩
  let turn : U → Slots → Sto → RS := fun u σ S => match Far.assign t u σ with
    | some σ1 => evSs N cf body σ1 S
    | none => .bad
  let Wv : Nat → Nat → L2.St → Hp → Prop := fun i m sv H => i + m = us.length ∧ ∃ Fc rhoc σc Sc, FS X.K X.w F0 H0 rho0 Fc H rhoc Sc σc sv ∧ Same F1 Fc ∧ Pre rho1 rhoc ∧ PostS X.K X.w X.mg F0 H0 rho0 F1 rho1 (evFor turn (us.drop i) σc Sc) D W
  refine ⟨Wv, ⟨us.length, by omega, F1, rho1, σ, S1, fs1, Same.refl _, Pre.refl _, q1⟩, fun i m svc Hc hw => ?_⟩
  obtain ⟨him, Fc, rhoc, σc, Sc, fsc, sF, pR, qc⟩ := hw
  cases hu : us[i]? with
  | none =>
    left
    have hi : us.length ≤ i := List.getElem?_eq_none_iff.mp hu
    rw [List.drop_eq_nil_of_le hi] at qc
    exact ⟨src.stop i Fc Hc sF fsc.st.sub hi, qc Fc Hc rhoc svc fsc sF pR⟩
  | some u =>
    right
    have hi : i < us.length := (List.getElem?_eq_some_iff.mp hu).1
    refine ⟨src.go i Fc Hc sF fsc.st.sub hi, fun s H => Wv (i + 1) (m - 1) s H, fun s H h => ⟨m - 1, by omega, h⟩, fun x H' hy => ?_⟩
    obtain ⟨F2, g2, s2, k2, cx⟩ := src.yld i u Fc Hc rhoc x H' sF fsc.st.sub pR hu hy
    have st2 := fsc.st.more g2 s2 k2
    have fs2 := fsc.grow g2 st2
    rw [drop_cons hu] at qc
    have qc' : PostS X.K X.w X.mg F0 H0 rho0 F1 rho1 (match turn u σc Sc with
      | .nx σ1 S1 => evFor turn (us.drop (i + 1)) σ1 S1
      | .ct σ1 S1 => evFor turn (us.drop (i + 1)) σ1 S1
      | .bk σ1 S1 => .nx σ1 S1
      | r => r) D W := qc
    cases ha : Far.assign t u σc with
    | none =>
      simp only [turn, ha] at qc'
      exact qc'.elim
    | some σ1 =>
      simp only [turn, ha] at qc'
      refine ⟨F2, rhoc, Sc, σc, u, σ1, st2, fs2.sl, cx, ha, fun F3 H3 sv3 g3 k3 st3 sl3 b3 => ?_⟩
      have fs3 := fs2.assign ha g3 st3 sl3 b3
      refine ⟨F3, rhoc, σ1, Sc, fs3, ?_⟩
      have sF3 : Same F1 F3 := (sF.trans g2.fex).trans g3.fex
      cases er : evSs N cf body σ1 Sc with
      | nx σ4 S4 =>
        rw [er] at qc'
        intro F4 H4 rho4 sv4 fs4 e4 p4
        exact ⟨by omega, F4, rho4, σ4, S4, fs4, sF3.trans e4, pR.trans p4, qc'⟩
      | ct σ4 S4 =>
        rw [er] at qc'
        intro F4 H4 rho4 sv4 fs4 e4 p4
        exact ⟨by omega, F4, rho4, σ4, S4, fs4, sF3.trans e4, pR.trans p4, qc'⟩
      | bk σ4 S4 => rw [er] at qc'; exact fun F4 H4 rho4 sv4 fs4 e4 p4 => qc' F4 H4 rho4 sv4 fs4 (sF3.trans e4) (pR.trans p4)
      | rt u4 S4 => rw [er] at qc'; exact qc'
      | exc x4 σ4 S4 => rw [er] at qc'; exact fun c d F4 H4 rho4 sv4 fs4 e4 p4 xr => qc' c d F4 H4 rho4 sv4 fs4 (sF3.trans e4) (pR.trans p4) xr
      | bad => rw [er] at qc'; exact qc'
theorem s_whl (hp : PassesOwn (model X.prog X.w) X.A X.env X.xe) {t : LC} {body : LSs} {c : Expr} {xs : List Stmt} {p : Pos} (hc : PT X c (rdT N cf X.K X.w X.mg W t)) (hb : PSs X xs (rdSs N cf X.K X.w X.mg F0 H0 rho0 W body)) :
    PS X (.While c xs [] p) (rdS N cf X.K X.w X.mg F0 H0 rho0 W (.whl t body)) := by
  refine PS.imp (ps_while hp hc hb) fun D sv H q => ?_
  obtain ⟨F, rho, σ, S, fs, q⟩ := q
  simp only [evS] at q
  let tst : Slots → Sto → R Bool := fun σ S => evT N cf σ t S
  let bdy : Slots → Sto → RS := fun σ S => evSs N cf body σ S
  let Wv : Nat → L2.St → Hp → Prop := fun m sv H => ∃ Fc rhoc σc Sc, FS X.K X.w F0 H0 rho0 Fc H rhoc Sc σc sv ∧ PostS X.K X.w X.mg F0 H0 rho0 Fc rhoc (evWhl tst bdy m σc Sc) D W
  refine ⟨Wv, ⟨whileFuel, F, rho, σ, S, fs, q⟩, fun m svc Hc hw => ?_⟩
  obtain ⟨Fc, rhoc, σc, Sc, fsc, qc⟩ := hw
  cases m with
  | zero => exact qc.elim
  | succ m =>
    have qc2 : PostS X.K X.w X.mg F0 H0 rho0 Fc rhoc ((tst σc Sc).then σc fun k S1 => if k = true then (match bdy σc S1 with
      | .nx σ1 S2 => evWhl tst bdy m σ1 S2
      | .ct σ1 S2 => evWhl tst bdy m σ1 S2
      | .bk σ1 S2 => .nx σ1 S2
      | r => r) else .nx σc S1) D W := qc
    refine ⟨Fc, rhoc, σc, Sc, fsc.st, fsc.sl, (qc2.expr fsc).imp fun x H1 ⟨u, S1, F1, rho1, fs1, c1, q1, _⟩ => ?_⟩
    cases c1
    cases x with
    | false =>
      simp only [Bool.false_eq_true, if_false] at q1 ⊢
      exact q1 F1 H1 rho1 svc fs1 (Same.refl _) (Pre.refl _)
    | true =>
      simp only [if_true] at q1 ⊢
      refine ⟨fun s H => Wv m s H, fun s H h => ⟨m, by omega, h⟩, F1, rho1, σc, S1, fs1, ?_⟩
      simp only [bdy] at q1
      cases er : evSs N cf body σc S1 with
      | nx σ4 S4 =>
        rw [er] at q1
        exact fun F4 H4 rho4 sv4 fs4 e4 p4 => ⟨F4, rho4, σ4, S4, fs4, PostS.mono q1 e4 p4⟩
      | ct σ4 S4 =>
        rw [er] at q1
        exact fun F4 H4 rho4 sv4 fs4 e4 p4 => ⟨F4, rho4, σ4, S4, fs4, PostS.mono q1 e4 p4⟩
      | bk σ4 S4 => rw [er] at q1; exact q1
      | rt u4 S4 => rw [er] at q1; exact q1
      | exc x4 σ4 S4 => rw [er] at q1; exact q1
      | bad => rw [er] at q1; exact q1
/-! ### a thing of the store changes -/
theorem nodup_at {α : Type} : ∀ {l : List α} {m n : Nat} {a : α}, l.Nodup → l[m]? = some a → l[n]? = some a → m = n
  | [], m, n, a, _, h, _ => by simp at h
  | x :: l, 0, 0, a, _, _, _ => rfl
  | x :: l, 0, n + 1, a, nd, h1, h2 => by
    simp at h1 h2
    subst h1
    exact absurd (List.mem_of_getElem? h2) (List.nodup_cons.mp nd).1
  | x :: l, m + 1, 0, a, nd, h1, h2 => by
    simp at h1 h2
    subst h2
    exact absurd (List.mem_of_getElem? h1) (List.nodup_cons.mp nd).1
  | x :: l, m + 1, n + 1, a, nd, h1, h2 => by
    have := nodup_at (List.nodup_cons.mp nd).2 (by simpa using h1) (by simpa using h2)
    omega
theorem FS.write {K : PySem.W.Frag} {w : World} {F H : Hp} {rho : List Addr} {S : Sto} {σ : Slots} {sv : L2.St} {n : Nat} {a : Addr} {o : SO} {ho : HO} (fs : FS K w F0 H0 rho0 F H rho S σ sv) (ha : rho[n]? = some a) (ok : SOk K w F rho o ho) :
    FS K w F0 H0 rho0 F (upd H a ho) rho (S.set n o) σ sv := by
  have hm : a ∈ rho := List.mem_of_getElem? ha
  obtain ⟨fa, x, ha2⟩ := fs.st.mem hm
  refine ⟨⟨fun b u e => by rw [upd_ne (ne_of_none e fa)]; exact fs.st.sub b u e, by rw [List.length_set]; exact fs.st.len, fs.st.nd, fun m b q e1 e2 => ?_⟩, ⟨fs.sl.len, fun i s e => ?_, fs.sl.apart⟩, ⟨fs.gr.fex, fs.gr.fnew, fs.gr.rex, fs.gr.rnew, fun b u e nb => ?_, fun b e => ?_⟩, fs.fr⟩
  · by_cases z : m = n
    · subst z
      rw [ha] at e1
      cases e1
      have hl : m < S.length := by
        have := (List.getElem?_eq_some_iff.mp e2).1
        simpa using this
      rw [List.getElem?_set_self hl] at e2
      cases e2
      exact ⟨fa, ho, upd_same, ok⟩
    · rw [List.getElem?_set_ne (Ne.symm z)] at e2
      obtain ⟨f1, x1, e3, e4⟩ := fs.st.sto m b q e1 e2
      have zb : b ≠ a := fun zb => by
        subst zb
        exact z (nodup_at fs.st.nd e1 ha)
      exact ⟨f1, x1, by rw [upd_ne zb]; exact e3, e4⟩
  · obtain ⟨v, e1, k1⟩ := fs.sl.at_ i s e
    refine ⟨v, e1, ?_⟩
    cases s with
    | no => trivial
    | val u => exact k1
    | own us =>
      obtain ⟨p, vs, ep, f, np, hp, c⟩ := k1
      have zp : p ≠ a := fun z => np (z ▸ hm)
      exact ⟨p, vs, ep, f, np, by rw [upd_ne zp]; exact hp, c⟩
  · have zb : b ≠ a := fun z => by
      subst z
      rcases fs.gr.rnew b hm with y | y
      · exact nb y
      · rw [e] at y; cases y
    rw [upd_ne zb]
    exact fs.gr.keep b u e nb
  · by_cases z : b = a
    · subst z; rw [upd_same] at e; cases e
    · rw [upd_ne z] at e; exact fs.gr.dom b e
theorem s_setI {o i e : LE} {x y v : Expr} {p p2 : Pos} (hc : comp v = false) (hsl : sliced y = false) (ho : PE X x (rdE N cf X.K X.w X.mg W o)) (hi : PE X y (rdE N cf X.K X.w X.mg W i)) (he : PE X v (rdE N cf X.K X.w X.mg W e)) :
    PS X (.Assign [.Subscript x y p2] v p) (rdS N cf X.K X.w X.mg F0 H0 rho0 W (.setI o i e)) := by
  refine PS.imp (ps_asg he (pg_sub ho hi set_list fun u => by cases y <;> first | rfl | cases hsl) (sws_plain hc _ _ _) rfl rfl) fun D sv H q => ?_
  obtain ⟨F, rho, σ, S, fs, q⟩ := q
  simp only [evS] at q
  refine ⟨F, rho, σ, S, fs.st, fs.sl, (q.expr fs).imp fun v H1 ⟨u, S1, F1, rho1, fs1, c1, q1, _⟩ => ?_⟩
  refine ⟨F1, rho1, σ, S1, fs1.st, fs1.sl, (q1.expr fs1).imp fun ov H2 ⟨ou, S2, F2, rho2, fs2, c2, q2, g2⟩ => ?_⟩
  refine ⟨F2, rho2, σ, S2, fs2.st, fs2.sl, (q2.expr fs2).imp fun iv H3 ⟨iu, S3, F3, rho3, fs3, c3, q3, g3⟩ => ?_⟩
  have c1' := c1.mono (g2.trans g3).fex (g2.trans g3).rex
  have c2' := c2.mono g3.fex g3.rex
  cases c2' with
  | @ref n a hn =>
    cases c3 with
    | int j =>
      obtain ⟨so, ho, e1, f1, e2, okk⟩ := fs3.st.at hn
      cases so with
      | lst us =>
        obtain ⟨vs, rfl, cs⟩ := okk
        simp only [stoSet, e1] at q3
        cases hj : ixN us.length j with
        | none => rw [hj] at q3; exact q3.elim
        | some jj =>
          rw [hj] at q3
          refine ⟨a, vs, j, jj, rfl, rfl, e2, by rw [← cs.length]; exact hj, ?_⟩
          exact q3 F3 _ rho3 sv (fs3.write hn ⟨_, rfl, cs.set c1' jj⟩) (Same.refl _) (Pre.refl _)
    | _ => simp only [stoSet] at q3; exact q3.elim
  | _ => simp only [stoSet] at q3; exact q3.elim
theorem s_brk {p : Pos} : PS X (.Break p) (rdS N cf X.K X.w X.mg F0 H0 rho0 W .brk) := PS.imp ps_break fun D sv H q => by
  obtain ⟨F, rho, σ, S, fs, q⟩ := q
  exact q F H rho sv fs (Same.refl _) (Pre.refl _)
theorem s_cnt {p : Pos} : PS X (.Continue p) (rdS N cf X.K X.w X.mg F0 H0 rho0 W .cnt) := PS.imp ps_continue fun D sv H q => by
  obtain ⟨F, rho, σ, S, fs, q⟩ := q
  exact q F H rho sv fs (Same.refl _) (Pre.refl _)
theorem s_pss {p : Pos} : PS X (.Pass p) (rdS N cf X.K X.w X.mg F0 H0 rho0 W .pss) := PS.imp ps_pass fun D sv H q => by
  obtain ⟨F, rho, σ, S, fs, q⟩ := q
  exact q F H rho sv fs (Same.refl _) (Pre.refl _)
/-- x = [.. for ..], x a local -/
theorem s_lc (ok : XOk N cf k X W) {i : Nat} {own : List Nat} {tg : LT} {it : LI} {cs : LK} {e : LE} {elt t iter : Expr} {ifs : List Expr} {scope : Scope} {p p2 p3 : Pos} {x : Str} (hx : k.ns[i]? = some x) (hxl : k.sc.names.lookup x = some .local) (hk : k.sc.kind = .function) (hl : (p2.line == p.line) = true)
    (hn : (scope.names.any fun (n, kk) => n == x && (kk == .local || kk == .cell)) = false) (ho : ownOk k own scope = true) (hs : setLit iter = false) (hsub : tg.slots.all own.contains = true)
    (hg : ∀ (s : Shared) (H : Hp) (C : Addr) (cl : List (Str × Addr)) (fp : List Addr), PG (X.blk s H scope (compEnvC scope cl C X.env) fp) t (rdG X.K X.w tg))
    (hi : PI X t iter (rdI N cf X.K X.w X.mg W it))
    (ht : ∀ (s : Shared) (H : Hp) (C : Addr) (cl : List (Str × Addr)) (fp : List Addr), PTs (X.blk s H scope (compEnvC scope cl C X.env) fp) ifs (rdK N cf X.K X.w X.mg (fun _ _ _ _ => False) cs))
    (he : ∀ (s : Shared) (H : Hp) (C : Addr) (cl : List (Str × Addr)) (fp : List Addr), PE (X.blk s H scope (compEnvC scope cl C X.env) fp) elt (rdE N cf X.K X.w X.mg (fun _ _ _ _ => False) e)) :
    PS X (.Assign [.Name x p2] (.ListComp elt [⟨t, iter, ifs, 0⟩] scope p) p3) (rdS N cf X.K X.w X.mg F0 H0 rho0 W (.asg (.nm i) (.lc own tg it cs e))) := by
  have hfold : ∀ x, foldedSetIterable iter X.env x = pure x := fun x => by cases iter <;> first | rfl | cases hs
  have hb : BlkOk X.N X.env.scope scope (own.map fun i => (k.ns.getD i Str.empty, i)) := by
    rw [ok.ns, ok.sc]
    exact blkOk_by ho
  have hxl' : X.env.scope.names.lookup x = some .local := by rw [ok.sc]; exact hxl
  have hk' : X.env.scope.kind = .function := by rw [ok.sc]; exact hk
  have hx' : X.N[i]? = some x := by rw [ok.ns]; exact hx
  have key := (e_lc (W := W) ok (p := p) ho hs hsub hg hi ht he).2
  have := ps_setLc (own := own.map fun i => (k.ns.getD i Str.empty, i)) (pos := p) (spos := p3) (py := p2) ok.calm ok.nd hx' hxl' (sw_true hk' hxl' hl hn) hi hb hg ht he hfold
  rw [own_map] at this
  refine PS.imp this fun D sv H q => key sv H _ ?_
  obtain ⟨F, rho, σ, S, fs, q⟩ := q
  unfold evS at q
  refine ⟨F, rho, σ, S, fs.st, fs.sl, (q.expr fs).imp fun v H1 ⟨u, S1, F1, rho1, fs1, c1, q1, _⟩ => ?_⟩
  have ea : Far.assign (.nm i) u σ = some (σ.set i (.val u)) := by unfold Far.assign; rfl
  rw [ea] at q1
  exact q1 F1 H1 rho1 _ (fs1.assign ea (Grow.refl _ _ _) fs1.st (set_slots fs1.sl c1) (But.set _ _ _)) (Same.refl _) (Pre.refl _)
/-- a, b = x, y stored from the right -/
theorem setVals_ok {K : PySem.W.Frag} {w : World} {F H : Hp} {rho : List Addr} {S : Sto} : ∀ {is : List Nat} {us : List U} {vs : List V} {σ σ' : Slots} {sv : L2.St}, FS K w F0 H0 rho0 F H rho S σ sv → CVs K w F rho us vs → setVals is us σ = some σ' → FS K w F0 H0 rho0 F H rho S σ' (setV is vs sv) ∧ is.length = vs.length
  | [], _, _, σ, σ', sv, fs, .nil, e => by
    unfold setVals at e
    cases e
    exact ⟨fs, rfl⟩
  | [], _, _, σ, σ', sv, fs, .cons _ _, e => by unfold setVals at e; cases e
  | i :: is, _, _, σ, σ', sv, fs, .nil, e => by unfold setVals at e; cases e
  | i :: is, _, _, σ, σ', sv, fs, .cons (u := u) (v := v) c cs, e => by
    unfold setVals at e
    have ea : Far.assign (.nm i) u σ = some (σ.set i (.val u)) := by unfold Far.assign; rfl
    have fs' := fs.assign ea (Grow.refl _ _ _) fs.st (set_slots fs.sl c) (But.set i sv (some v))
    obtain ⟨h1, h2⟩ := setVals_ok fs' cs e
    exact ⟨h1, by simp [h2]⟩
theorem s_par2 (ok : XOk N cf k X W) {i j : Nat} {es : LEs} {x y : Str} {a b : Expr} {px py pt p2 p : Pos} {n m : Nat} (hx : k.ns[i]? = some x) (hy : k.ns[j]? = some y) (hij : i ≠ j) (lx : k.sc.names.lookup x = some .local) (ly : k.sc.names.lookup y = some .local)
    (hw : swapV k.sc [.Name x px, .Name y py] [a, b] = some (some [x, y])) (h : PA X [a, b] (rdEs N cf X.K X.w X.mg W es)) :
    PS X (.Assign [.Tuple [.Name x px, .Name y py] n pt] (.Tuple [a, b] m p2) p) (rdS N cf X.K X.w X.mg F0 H0 rho0 W (.par [i, j] es)) := by
  rw [← ok.ns] at hx hy
  rw [← ok.sc] at lx ly
  refine PS.imp (ps_par ok.calm ok.nd hx hy hij lx ly h (swapV_ok ok.sc hw) rfl) fun D sv H q => ?_
  obtain ⟨F, rho, σ, S, fs, q⟩ := q
  simp only [evS] at q
  refine ⟨F, rho, σ, S, fs.st, fs.sl, (q.expr fs).imp fun vs H1 ⟨us, S1, F1, rho1, fs1, c1, q1, _⟩ => ?_⟩
  cases es' : setVals [i, j] us σ with
  | none => rw [es'] at q1; exact q1.elim
  | some σ' =>
    rw [es'] at q1
    obtain ⟨fs2, hl⟩ := setVals_ok fs1 c1 es'
    match vs, hl with
    | [v, w'], _ => exact ⟨v, w', rfl, q1 F1 H1 rho1 _ fs2 (Same.refl _) (Pre.refl _)⟩
theorem s_par3 (ok : XOk N cf k X W) {i j l : Nat} {es : LEs} {x y z : Str} {a b c : Expr} {px py pz pt p2 p : Pos} {n m : Nat} (hx : k.ns[i]? = some x) (hy : k.ns[j]? = some y) (hz : k.ns[l]? = some z) (hij : i ≠ j) (hil : i ≠ l) (hjl : j ≠ l)
    (lx : k.sc.names.lookup x = some .local) (ly : k.sc.names.lookup y = some .local) (lz : k.sc.names.lookup z = some .local)
    (hw : swapV k.sc [.Name x px, .Name y py, .Name z pz] [a, b, c] = some (some [x, y, z])) (h : PA X [a, b, c] (rdEs N cf X.K X.w X.mg W es)) :
    PS X (.Assign [.Tuple [.Name x px, .Name y py, .Name z pz] n pt] (.Tuple [a, b, c] m p2) p) (rdS N cf X.K X.w X.mg F0 H0 rho0 W (.par [i, j, l] es)) := by
  rw [← ok.ns] at hx hy hz
  rw [← ok.sc] at lx ly lz
  refine PS.imp (ps_par3 ok.calm ok.nd hx hy hz hij hil hjl lx ly lz h (swapV_ok ok.sc hw) rfl) fun D sv H q => ?_
  obtain ⟨F, rho, σ, S, fs, q⟩ := q
  simp only [evS] at q
  refine ⟨F, rho, σ, S, fs.st, fs.sl, (q.expr fs).imp fun vs H1 ⟨us, S1, F1, rho1, fs1, c1, q1, _⟩ => ?_⟩
  cases es' : setVals [i, j, l] us σ with
  | none => rw [es'] at q1; exact q1.elim
  | some σ' =>
    rw [es'] at q1
    obtain ⟨fs2, hl⟩ := setVals_ok fs1 c1 es'
    match vs, hl with
    | [v, w', v3], _ => exact ⟨v, w', v3, rfl, q1 F1 H1 rho1 _ fs2 (Same.refl _) (Pre.refl _)⟩
end
end Far

set_option Elab.async false
set_option linter.all false
set_option maxRecDepth 100000
set_option maxHeartbeats 4000000
/-! Lists that a slot owns: made, lengthened, changed, given up. -/
namespace Far
open PySem PySem.Spec PyProof.Rows L2
/-- a new list, apart from all -/
def relP (K : PySem.W.Frag) (w : World) (H0 : Hp) : Hp → Hp → List Addr → List U → V → Prop := fun F H rho us v => ∃ p vs, v = .ref p ∧ H0 p = none ∧ F p = none ∧ p ∉ rho ∧ H p = some (.lst vs) ∧ CVs K w F rho us vs
def rdP (N : Cn) (cf : CF) (K : PySem.W.Frag) (w : World) (mg : Str → Option Value) (W : WX) (e : LE) : TE := fun sv H Q => ∃ F rho σ S, St K w F H rho S ∧ SlotsOk K w F H rho σ sv ∧ Post K w mg (relP K w H) F H rho (evP N cf σ e S) Q (WE W sv)
section
variable {K : PySem.W.Frag} {w : World} {mg : Str → Option Value}
theorem Post.newP {F2 H2 H0 : Hp} {rho2 : List Addr} {S2 : Sto} {o : Option PR} {Q : VK} {E : XK} (st2 : St K w F2 H2 rho2 S2) (hd : ∀ p, H2 p = none → H0 p = none) (q : Post K w mg (relP K w H0) F2 H2 rho2 (newOf o S2) Q E) : ∃ us, o = some (.newL us) ∧ PP K w F2 H2 rho2 (.newL us) Q := by
  cases o with
  | none => exact q.elim
  | some pr =>
    cases pr with
    | val u => exact q.elim
    | newL us =>
      refine ⟨us, rfl, fun p vs np cs => ?_⟩
      have hs : Same F2 (upd H2 p (.lst vs)) := fun a u e => by
        rw [upd_ne (ne_of_none (st2.sub a u e) np)]
        exact st2.sub a u e
      have hk : Same H2 (upd H2 p (.lst vs)) := fun a u e => by
        rw [upd_ne (ne_of_none e np)]
        exact e
      refine q (.ref p) F2 _ rho2 (Grow.lay np) (st2.more (Grow.lay np) hs hk) ⟨p, vs, rfl, hd p np, st2.sub.free np, fun z => ?_, upd_same, cs⟩
      obtain ⟨_, ho, h⟩ := st2.mem z
      rw [np] at h
      cases h
end
section
variable {N : Cn} {cf : CF} {k : Ck} {X : Cx} {W : WX} {F0 H0 : Hp} {rho0 : List Addr}
theorem p_op {o : Bop} {op : Operator} {a b : LE} {l r : Expr} {p : Pos} (ho : bopOk o op = true) (ha : PE X l (rdB N cf X.K X.w X.mg W a)) (hb : PE X r (rdB N cf X.K X.w X.mg W b)) : PE X (.BinOp l op r p) (rdP N cf X.K X.w X.mg W (.op o a b)) := by
  have e : op = bopA o := by cases o <;> cases op <;> first | rfl | cases ho
  subst e
  refine PE.imp (pe_op (opr_bop o) ha hb) fun sv H Q q => ?_
  obtain ⟨F, rho, σ, S, st, sl, q⟩ := q
  simp only [evP] at q
  refine ⟨F, rho, σ, S, st, sl, (Post.bind q).imp fun x H1 ⟨u, S1, F1, rho1, g1, st1, c1, q1, _⟩ => ?_⟩
  refine ⟨F1, rho1, σ, S1, st1, sl.grow g1, (Post.bind q1).imp fun y H2 ⟨u2, S2, F2, rho2, g2, st2, c2, q2, _⟩ => ?_⟩
  obtain ⟨us, e, pp⟩ := Post.newP st2 (fun p h => (g1.trans g2).dom p h) q2
  exact ⟨F2, rho2, S2, u, u2, _, st2, CVb.grow g2 c1, c2, e, pp⟩
theorem p_split (ok : XOk N cf k X W) {a b : LE} {x z : Expr} {n : Str} {ap p : Pos} (hn : n = metName .split) (hl : (ap.endLine == p.line) = true) (hx : noargs x = false) (hs : starred z = false) (ha : PE X x (rdE N cf X.K X.w X.mg W a)) (hb : PE X z (rdB N cf X.K X.w X.mg W b)) :
    PE X (.Call (.Attribute x n ap) [z] [] p) (rdP N cf X.K X.w X.mg W (.m1 .split a b)) := by
  subst hn
  have hu := ok.room
  have hse := star_cons hs ([] : List Expr) X.env
  have hpa := pa_cons hb pa_nil hse
  refine PE.imp (pe_bm F.plainAttrs_str F.slot_str_split F.type_str_split (mt_met hu .split) ha hpa (base_ok hx _ _) (few_one hs _ _) hl hse rfl) fun sv H Q q => ?_
  obtain ⟨F, rho, σ, S, st, sl, q⟩ := q
  simp only [evP] at q
  refine ⟨F, rho, σ, S, st, sl, (Post.bind q).imp fun v H1 ⟨u, S1, F1, rho1, g1, st1, c1, q1, _⟩ => ?_⟩
  by_cases ht : metTy .split u = true
  · rw [if_pos ht] at q1
    have hty : tyV X.K "str" v H1 := by
      cases u <;> first | (cases c1; rfl) | cases ht
    refine ⟨hty, F1, rho1, σ, S1, st1, sl.grow g1, (Post.bind q1).imp fun v2 H2 ⟨u2, S2, F2, rho2, g2, st2, c2, q2, _⟩ => ?_⟩
    obtain ⟨us, e, pp⟩ := Post.newP st2 (fun p h => (g1.trans g2).dom p h) q2
    exact ⟨F2, rho2, S2, u, u2, v2, _, rfl, st2, c1.mono g2.fex g2.rex, c2, e, pp⟩
  · rw [if_neg ht] at q1
    exact q1.elim
/-- the slot owns a new list -/
theorem FS.owned {K : PySem.W.Frag} {w : World} {F H F1 H1 : Hp} {rho rho1 : List Addr} {S S1 : Sto} {σ : Slots} {sv : L2.St} {i : Nat} {us : List U} {v : V} (fs : FS K w F0 H0 rho0 F H rho S σ sv) (fs1 : FS K w F0 H0 rho0 F1 H1 rho1 S1 σ sv) (hi : i < σ.length) (r : relP K w H F1 H1 rho1 us v) :
    FS K w F0 H0 rho0 F1 H1 rho1 S1 (σ.set i (.own us)) (sv.set i (some v)) := by
  obtain ⟨p, vs, rfl, h0, f, nr, hp, cs⟩ := r
  have hi2 : i < sv.length := by rw [← fs.sl.len]; exact hi
  have old : ∀ {j : Nat} {ws : List U}, σ[j]? = some (.own ws) → sv[j]? = some (some (.ref p)) → False := fun {j ws} e1 e2 => by
    obtain ⟨o, e3, p', vs', e4, _, _, hp', _⟩ := fs.sl.at_ j _ e1
    rw [e2] at e3
    cases e3
    cases e4
    rw [h0] at hp'
    cases hp'
  have at1 : ∀ {j : Nat} {s : SL}, (σ.set i (.own us))[j]? = some s → (j = i ∧ s = .own us) ∨ (j ≠ i ∧ σ[j]? = some s) := fun {j s} e => by
    by_cases z : j = i
    · subst z
      rw [List.getElem?_set_self hi] at e
      cases e
      exact .inl ⟨rfl, rfl⟩
    · rw [List.getElem?_set_ne (Ne.symm z)] at e
      exact .inr ⟨z, e⟩
  have at2 : ∀ {j : Nat}, j ≠ i → (sv.set i (some (V.ref p)))[j]? = sv[j]? := fun {j} z => List.getElem?_set_ne (Ne.symm z)
  refine ⟨fs1.st, ⟨by rw [List.length_set, List.length_set]; exact fs1.sl.len, fun j s e => ?_, fun j m ws xs q e1 e2 e3 e4 => ?_⟩, fs1.gr, fun j ws q e1 e2 => ?_⟩
  · rcases at1 e with ⟨rfl, rfl⟩ | ⟨z, e⟩
    · exact ⟨some (.ref p), List.getElem?_set_self hi2, p, vs, rfl, f, nr, hp, cs⟩
    · obtain ⟨o, e5, ok⟩ := fs1.sl.at_ j s e
      exact ⟨o, by rw [at2 z]; exact e5, ok⟩
  · rcases at1 e1 with ⟨rfl, _⟩ | ⟨z1, f1⟩
    · rcases at1 e2 with ⟨rfl, _⟩ | ⟨z2, f2⟩
      · rfl
      · rw [List.getElem?_set_self hi2] at e3
        cases e3
        rw [at2 z2] at e4
        exact (old f2 e4).elim
    · rcases at1 e2 with ⟨rfl, _⟩ | ⟨z2, f2⟩
      · rw [List.getElem?_set_self hi2] at e4
        cases e4
        rw [at2 z1] at e3
        exact (old f1 e3).elim
      · rw [at2 z1] at e3
        rw [at2 z2] at e4
        exact fs1.sl.apart j m ws xs q f1 f2 e3 e4
  · rcases at1 e1 with ⟨rfl, _⟩ | ⟨z1, f1⟩
    · rw [List.getElem?_set_self hi2] at e2
      cases e2
      exact fs.gr.dom _ h0
    · rw [at2 z1] at e2
      exact fs1.fr j ws q f1 e2
theorem s_own (ok : XOk N cf k X W) {i : Nat} {e : LE} {x : Str} {v : Expr} {p p2 : Pos} (hx : k.ns[i]? = some x) (hl : k.sc.names.lookup x = some .local) (hc : comp v = false) (hw : noSwap k.sc (.Name x p2) v = true) (he : PE X v (rdP N cf X.K X.w X.mg W e)) :
    PS X (.Assign [.Name x p2] v p) (rdS N cf X.K X.w X.mg F0 H0 rho0 W (.own i e)) := by
  have hx' : X.N[i]? = some x := by rw [ok.ns]; exact hx
  have hl' : X.env.scope.names.lookup x = some .local := by rw [ok.sc]; exact hl
  refine PS.imp (ps_asg he (pg_name (i := i) ok.nd hx' (.inl hl') (.inr hl')) (sws_plain hc _ _ _) (noSwap_ok ok.sc hw) (each_one rfl _)) fun D sv H q => ?_
  obtain ⟨F, rho, σ, S, fs, q⟩ := q
  simp only [evS] at q
  refine ⟨F, rho, σ, S, fs.st, fs.sl, (q.expr fs).imp fun x H1 ⟨us, S1, F1, rho1, fs1, c1, q1, g1⟩ => ?_⟩
  by_cases hi : i < σ.length
  · rw [if_pos hi] at q1
    exact q1 F1 H1 rho1 _ (fs.owned fs1 hi c1) (Same.refl _) (Pre.refl _)
  · rw [if_neg hi] at q1
    exact q1.elim
/-- an owned list is written -/
theorem FS.ownW {K : PySem.W.Frag} {w : World} {F H : Hp} {rho : List Addr} {S : Sto} {σ : Slots} {sv : L2.St} {i : Nat} {us ws : List U} {p : Addr} {xs : List V} (fs : FS K w F0 H0 rho0 F H rho S σ sv) (ho : σ[i]? = some (.own us)) (hv : sv[i]? = some (some (.ref p))) (cs : CVs K w F rho ws xs) :
    FS K w F0 H0 rho0 F (upd H p (.lst xs)) rho S (σ.set i (.own ws)) sv := by
  obtain ⟨o, e1, p', vs, e2, f, nr, hp, c0⟩ := fs.sl.at_ i _ ho
  rw [hv] at e1
  cases e1
  cases e2
  have hi : i < σ.length := (List.getElem?_eq_some_iff.mp ho).1
  have at1 : ∀ {j : Nat} {s : SL}, (σ.set i (.own ws))[j]? = some s → (j = i ∧ s = .own ws) ∨ (j ≠ i ∧ σ[j]? = some s) := fun {j s} e => by
    by_cases z : j = i
    · subst z
      rw [List.getElem?_set_self hi] at e
      cases e
      exact .inl ⟨rfl, rfl⟩
    · rw [List.getElem?_set_ne (Ne.symm z)] at e
      exact .inr ⟨z, e⟩
  have own0 : ∀ {j : Nat} {ys : List U}, (σ.set i (.own ws))[j]? = some (.own ys) → ∃ zs, σ[j]? = some (.own zs) := fun {j ys} e => by
    rcases at1 e with ⟨rfl, _⟩ | ⟨_, e⟩
    · exact ⟨us, ho⟩
    · exact ⟨ys, e⟩
  refine ⟨⟨fun b u e => by rw [upd_ne (ne_of_none e f)]; exact fs.st.sub b u e, fs.st.len, fs.st.nd, fun m b q e1 e2 => ?_⟩, ⟨by rw [List.length_set]; exact fs.sl.len, fun j s e => ?_, fun j m ys zs q e1 e2 e3 e4 => ?_⟩, ⟨fs.gr.fex, fs.gr.fnew, fs.gr.rex, fs.gr.rnew, fun b u e nb => ?_, fun b e => ?_⟩, fun j ys q e1 e2 => ?_⟩
  · obtain ⟨f1, x1, e3, e4⟩ := fs.st.sto m b q e1 e2
    have zb : b ≠ p := fun z => nr (z ▸ List.mem_of_getElem? e1)
    exact ⟨f1, x1, by rw [upd_ne zb]; exact e3, e4⟩
  · rcases at1 e with ⟨rfl, rfl⟩ | ⟨z, e⟩
    · exact ⟨_, hv, p, xs, rfl, f, nr, upd_same, cs⟩
    · obtain ⟨o, e5, ok⟩ := fs.sl.at_ j s e
      refine ⟨o, e5, ?_⟩
      cases s with
      | no => trivial
      | val u => exact ok
      | own ys =>
        obtain ⟨p', vs', ep, f', np, hp', c'⟩ := ok
        subst ep
        have zp : p' ≠ p := fun zz => by
          subst zz
          exact z (fs.sl.apart j i ys us p' e ho e5 hv)
        exact ⟨p', vs', rfl, f', np, by rw [upd_ne zp]; exact hp', c'⟩
  · obtain ⟨_, f1⟩ := own0 e1
    obtain ⟨_, f2⟩ := own0 e2
    exact fs.sl.apart j m _ _ q f1 f2 e3 e4
  · have zb : b ≠ p := fun z => by
      subst z
      have := fs.fr i us b ho hv
      rw [e] at this
      cases this
    rw [upd_ne zb]
    exact fs.gr.keep b u e nb
  · by_cases z : b = p
    · subst z; rw [upd_same] at e; cases e
    · rw [upd_ne z] at e; exact fs.gr.dom b e
  · obtain ⟨_, f1⟩ := own0 e1
    exact fs.fr j _ q f1 e2
theorem s_appO (ok : XOk N cf k X W) {i : Nat} {e : LE} {x : Str} {z : Expr} {ap p1 p p2 : Pos} (hx : k.vis i x = true) (hl : (ap.endLine == p.line) = true) (hs : starred z = false) (he : PE X z (rdE N cf X.K X.w X.mg W e)) :
    PS X (.Expr (.Call (.Attribute (.Name x p1) "append" ap) [z] [] p) p2) (rdS N cf X.K X.w X.mg F0 H0 rho0 W (.appO i e)) := by
  obtain ⟨h1, h2, h3, h4⟩ := ok.vis hx
  have hse := star_cons hs ([] : List Expr) X.env
  refine PS.imp (ps_expr (pe_bm F.plainAttrs_list F.slot_list_append F.type_list_append mt_append (pe_var (i := i) h1 h2 h3 h4) (pa_cons he pa_nil hse) rfl (few_one hs _ _) hl hse rfl)) fun D sv H q => ?_
  obtain ⟨F, rho, σ, S, fs, q⟩ := q
  simp only [evS] at q
  cases ho : σ[i]? with
  | none => rw [ho] at q; exact q.elim
  | some s =>
    rw [ho] at q
    cases s with
    | no => exact q.elim
    | val u => exact q.elim
    | own us =>
      have q' : PostS X.K X.w X.mg F0 H0 rho0 F rho ((evE N cf σ e S).then σ fun u S1 => appS σ i u S1) D W := q
      obtain ⟨o, e1, p, vs, rfl, f, nr, hp, c0⟩ := fs.sl.at_ i _ ho
      refine ⟨.ref p, e1, .inl ⟨rfl, _, SqL.of hp⟩, F, rho, σ, S, fs.st, fs.sl, (q'.expr fs).imp fun y H1 ⟨u, S1, F1, rho1, fs1, c1, q1, g1⟩ => ?_⟩
      obtain ⟨o2, e2, p2, vs2, e3, f2, nr2, hp2, c2⟩ := fs1.sl.at_ i _ ho
      rw [e1] at e2
      cases e2
      cases e3
      unfold appS at q1
      rw [ho] at q1
      simp only at q1
      by_cases hb : us.length < big
      · rw [if_pos hb] at q1
        refine ⟨p, vs2, y, rfl, rfl, hp2, ?_, ?_⟩
        · rw [← c2.length, sizeLine_eq]
          unfold big at hb
          omega
        · exact q1 F1 _ rho1 sv (fs1.ownW ho e1 (c2.append (.cons c1 .nil))) (Same.refl _) (Pre.refl _)
      · rw [if_neg hb] at q1
        exact q1.elim
theorem s_setO (ok : XOk N cf k X W) {i : Nat} {j e : LE} {x : Str} {y v : Expr} {p p1 p2 : Pos} (hx : k.vis i x = true) (hc : comp v = false) (hsl : sliced y = false) (hi : PE X y (rdE N cf X.K X.w X.mg W j)) (he : PE X v (rdE N cf X.K X.w X.mg W e)) :
    PS X (.Assign [.Subscript (.Name x p1) y p2] v p) (rdS N cf X.K X.w X.mg F0 H0 rho0 W (.setO i j e)) := by
  obtain ⟨h1, h2, h3, h4⟩ := ok.vis hx
  refine PS.imp (ps_asg he (pg_sub (pe_var (i := i) h1 h2 h3 h4) hi set_list fun u => by cases y <;> first | rfl | cases hsl) (sws_plain hc _ _ _) rfl rfl) fun D sv H q => ?_
  obtain ⟨F, rho, σ, S, fs, q⟩ := q
  simp only [evS] at q
  refine ⟨F, rho, σ, S, fs.st, fs.sl, (q.expr fs).imp fun v H1 ⟨u, S1, F1, rho1, fs1, c1, q1, _⟩ => ?_⟩
  cases ho : σ[i]? with
  | none => rw [ho] at q1; exact q1.elim
  | some s =>
    rw [ho] at q1
    cases s with
    | no => exact q1.elim
    | val u => exact q1.elim
    | own us =>
      have q' : PostS X.K X.w X.mg F0 H0 rho0 F1 rho1 ((evE N cf σ j S1).then σ fun y S2 => setS σ i y u S2) D W := q1
      obtain ⟨o, e1, p, vs, rfl, f, nr, hp, c0⟩ := fs1.sl.at_ i _ ho
      refine ⟨.ref p, e1, F1, rho1, σ, S1, fs1.st, fs1.sl, (q'.expr fs1).imp fun yv H2 ⟨yu, S2, F2, rho2, fs2, c2, q2, g2⟩ => ?_⟩
      obtain ⟨o2, e2, p2, vs2, e3, f2, nr2, hp2, cs2⟩ := fs2.sl.at_ i _ ho
      rw [e1] at e2
      cases e2
      cases e3
      unfold setS at q2
      rw [ho] at q2
      cases c2 with
      | int jj =>
        simp only at q2
        cases hj : ixN us.length jj with
        | none => rw [hj] at q2; exact q2.elim
        | some m =>
          rw [hj] at q2
          refine ⟨p, vs2, jj, m, rfl, rfl, hp2, by rw [← cs2.length]; exact hj, ?_⟩
          exact q2 F2 _ rho2 sv (fs2.ownW ho e1 (cs2.set (c1.mono g2.fex g2.rex) m)) (Same.refl _) (Pre.refl _)
      | _ => exact q2.elim
/-- an owned list is given up: it changes no more -/
theorem ss_rel {i : Nat} {ss : LSs} {ys : List Stmt} (h : PSs X ys (rdSs N cf X.K X.w X.mg F0 H0 rho0 W ss)) : PSs X ys (rdSs N cf X.K X.w X.mg F0 H0 rho0 W (.cons (.relO i) ss)) := by
  refine PSs.imp h fun D sv H q => ?_
  obtain ⟨F, rho, σ, S, fs, q⟩ := q
  simp only [evSs, evS] at q
  unfold rlsS at q
  cases ho : σ[i]? with
  | none => rw [ho] at q; exact q.elim
  | some s =>
    rw [ho] at q
    cases s with
    | no => exact q.elim
    | val u => exact q.elim
    | own us =>
      obtain ⟨o, e1, p, vs, rfl, f, nr, hp, c0⟩ := fs.sl.at_ i _ ho
      have hi : i < σ.length := (List.getElem?_eq_some_iff.mp ho).1
      have hF : Same F (upd F p (.lst vs)) := fun a u e => by rw [upd_ne (ne_of_none e f)]; exact e
      have at1 : ∀ {j : Nat} {s : SL}, (σ.set i (.val (.lst us)))[j]? = some s → (j = i ∧ s = .val (.lst us)) ∨ (j ≠ i ∧ σ[j]? = some s) := fun {j s} e => by
        by_cases z : j = i
        · subst z
          rw [List.getElem?_set_self hi] at e
          cases e
          exact .inl ⟨rfl, rfl⟩
        · rw [List.getElem?_set_ne (Ne.symm z)] at e
          exact .inr ⟨z, e⟩
      have own0 : ∀ {j : Nat} {ys : List U}, (σ.set i (.val (.lst us)))[j]? = some (.own ys) → j ≠ i ∧ σ[j]? = some (.own ys) := fun {j ys} e => by
        rcases at1 e with ⟨_, z⟩ | z
        · cases z
        · exact z
      refine ⟨upd F p (.lst vs), rho, σ.set i (.val (.lst us)), S, ⟨⟨fun a u e => ?_, fs.st.len, fs.st.nd, fun m b q e1 e2 => ?_⟩, ⟨by rw [List.length_set]; exact fs.sl.len, fun j s e => ?_, fun j m ys zs q e1 e2 e3 e4 => fs.sl.apart j m ys zs q (own0 e1).2 (own0 e2).2 e3 e4⟩, ⟨fs.gr.fex.trans hF, fun a u e => ?_, fs.gr.rex, fs.gr.rnew, fs.gr.keep, fs.gr.dom⟩, fun j ys q e1 e2 => fs.fr j ys q (own0 e1).2 e2⟩, PostS.mono q hF (Pre.refl _)⟩
      · by_cases z : a = p
        · subst z; rw [upd_same] at e; cases e; exact hp
        · rw [upd_ne z] at e; exact fs.st.sub a u e
      · obtain ⟨f1, x1, e3, e4⟩ := fs.st.sto m b q e1 e2
        have zb : b ≠ p := fun z => nr (z ▸ List.mem_of_getElem? e1)
        exact ⟨by rw [upd_ne zb]; exact f1, x1, e3, e4.mono hF (Pre.refl _)⟩
      · rcases at1 e with ⟨rfl, rfl⟩ | ⟨z, e⟩
        · exact ⟨_, e1, .ref p, rfl, .lst upd_same (c0.mono hF (Pre.refl _))⟩
        · obtain ⟨o, e5, ok⟩ := fs.sl.at_ j s e
          refine ⟨o, e5, ?_⟩
          cases s with
          | no => trivial
          | val u =>
            obtain ⟨v, e6, c6⟩ := ok
            exact ⟨v, e6, c6.mono hF (Pre.refl _)⟩
          | own ys =>
            obtain ⟨p', vs', ep, f', np, hp', c'⟩ := ok
            subst ep
            have zp : p' ≠ p := fun zz => by
              subst zz
              exact z (fs.sl.apart j i ys us p' e ho e5 e1)
            exact ⟨p', vs', rfl, by rw [upd_ne zp]; exact f', np, hp', c'.mono hF (Pre.refl _)⟩
      · by_cases z : a = p
        · subst z; exact .inr (fs.fr i us a ho e1)
        · rw [upd_ne z] at e; exact fs.gr.fnew a u e
end
end Far

set_option Elab.async false
set_option linter.all false
set_option maxRecDepth 100000
set_option maxHeartbeats 4000000
/-! Own errors: what their __init__ leaves; raise. -/
namespace Far
open PySem PySem.Spec PyProof.Rows L2

/-- what an __init__ of an error leaves: its fields by g -/
def spInit (K : PySem.W.Frag) (n : Nat) (fns : List Str) (g : List V → List (Str × V)) : Sp := fun vs H Q _ => ∃ (a C : Addr) (ws : List V), vs = .ref a :: ws ∧ ws.length = n ∧ OexC K C ∧ (∀ f ∈ fns, PySem.W.findIn K (.ref C) f = some none) ∧ H a = some (exo a C none) ∧
  ∀ (dx : Addr) (H' : Hp), H dx = none → dx ≠ a → H' a = some (exo a C (some dx)) → H' dx = some (exd dx (g ws)) → (∀ b, b ≠ a → b ≠ dx → H' b = H b) → Q .non H'

/-- x.m(a, b) on one line -/
theorem mcall_eq {x m : Str} {a b : Expr} {p1 p2 pos : Pos} (env : Env) (ha : starred a = false) (hb : starred b = false) (h : (p2.endLine == pos.line) = true) : eval (.Call (.Attribute (.Name x p1) m p2) [a, b] [] pos) env = (do
      let ov ← eval (.Name x p1) env
      standAt p2.atName
      let (f, first) ← holding [ov] (getMethod ov m (do return (← importBound (.Name x p1) env).getD true))
      callWith pos f first (backTo pos (starEach [a, b] env)) (backToKw pos (keywordEach [] env))) := by
  have hf : methodCallForm 2 (backTo pos (starEach [a, b] env)) (backToKw pos (keywordEach [] env)) = true := by
    rw [star_cons ha, star_cons hb]
    rfl
  show (do
    let ov ← attributeBase (.Name x p1) m env (eval (.Name x p1) env)
    standAt p2.atName
    methodCall (.Name x p1) m p2 pos env ov 2 (backTo pos (starEach [a, b] env)) (backToKw pos (keywordEach [] env))) = _
  unfold methodCall methodCallPos calleeOf
  simp only [hf, h]
  rfl
section
variable {X : Cx} {e : Expr} {es : List Expr} {x : Str} {p1 p2 pos : Pos} {ta : TA}
/-- B.__init__(..), B an own class, its __init__ a def -/
theorem pe_binit {pl : Sem Bool} {B fI : Addr} {mc : Value} {k : Nat} {fd : FuncData} {ps : List Str} {sp : Sp} {E : XK} (hg : Gl X x) (hm : X.mg x = some (.ref B)) (r : ClX.CRead X.K B mc) (hv : PySem.W.findCls X.K (.ref B) mc "__init__" = some (.val (.ref fI))) (hk : PySem.W.keepIn X.K (.ref fI) = true)
    (F : FnOk X.prog X.w X.K X.mg X.base (L2.CX X.prog X.w) k fI fd ps sp) (hr : Room k X.A) (hb : Binds X.K fd ps []) (hx : Passes (L2.CX X.prog X.w) X E) (ha : PA X (e :: es) ta) (hdb : (x == ("__debug__" : Str)) = false)
    (hc : eval (.Call (.Attribute (.Name x p1) "__init__" p2) (e :: es) [] pos) X.env = (do
      let ov ← eval (.Name x p1) X.env
      standAt p2.atName
      let (f, first) ← holding [ov] (getMethod ov "__init__" pl)
      callWith pos f first (backTo pos (starEach (e :: es) X.env)) (backToKw pos (keywordEach [] X.env))) := by rfl)
    (he : starEach (e :: es) X.env = (false, eval e X.env) :: starEach es X.env := by rfl) (hpl : (backTo pos (starEach es X.env)).any (·.1) = false := by rfl) :
    PE X (.Call (.Attribute (.Name x p1) "__init__" p2) (e :: es) [] pos) (tCall sp [] E ta) := by
  refine ⟨fun pins s σ H Q I h => ?_⟩
  refine PySem.W.methodCall_KW (ld_glob I hg hm ?_ hdb) hc
  refine PySem.W.method_cls I.kIn r.ga (ClX.getcval_ok I r (v := V.ref fI) ⟨hv, rfl⟩ fun s1 I1 => ?_)
  show wpAny _ _ (callWith pos (Value.ref fI) [] (backTo pos (starEach (e :: es) X.env)) []) _ _ _
  refine PySem.W.callWith_K (h₀ := X.base) I.ok.mod.kin hk (thn (ha.run pos pins _ σ H _ I1 h) fun us s2 ⟨vs, H1, I2, r2, q⟩ => ⟨I2.kIn, ?_⟩) he hpl
  exact run_fn F hr hb .nil hx I2 r2 q
/-- C(), C's own __init__ keeping sp -/
theorem pmk_oex0 {C fI : Addr} {k : Nat} {fd : FuncData} {ps : List Str} {sp : Sp} {ds : List Value} {dvs : List V} {p : Pos} (T : OexC X.K C) (iC : PySem.W.findIn X.K (.ref C) "__init__" = some (some (.ref fI))) (tI : PySem.W.typeIn X.K (.ref fI) = some (.type "function"))
    (F1 : FnOk X.prog X.w X.K X.mg X.base (L2.CX X.prog X.w) k fI fd ps sp) (hr : Room (k + 1) X.A) (hb : Binds X.K fd ps ds) (hd : Vals dvs ds) (hx : Passes (L2.CX X.prog X.w) X (fun _ _ _ => False)) (hg : Gl X x) (hm : X.mg x = some (.ref C))
    (hdb : (x == ("__debug__" : Str)) = false) :
    PMk X (.Call (.Name x p) [] [] pos) (tMkO C sp dvs tNil) := by
  intro pins s σ H Q I h
  obtain ⟨nm, q, N, bs, bm, sn, sub, ab, col, dd, k0, k1, k2, k3, k5, hC, hbm⟩ := T.cls
  refine wpAny_Call_Name_kw (ld_glob I hg hm ?_ hdb)
  refine PySem.W.callWith_K0 I.kIn T.kC ?_
  show wpAny _ _ (call (.ref C) []) _ _ _
  obtain ⟨hz, q1⟩ := h
  obtain ⟨hp, g, dr, tk, os⟩ := s
  have hsz : hp.objs.size ≤ hp.objs.size + 1 := Nat.le_succ _
  have hn : H (hp.objs.size + 1) = none := I.hok.fresh hsz
  have hq := q1 (hp.objs.size + 1) hn
  have kk : ∀ b o, hp.get? b = some o → ((hp.push (PySem.W.kdv_tup [])).push (PySem.HandSPX.excO C hp.objs.size)).get? b = some o := fun b o e => Heap.get?_push_of_some _ (Heap.get?_push_of_some _ e)
  have hget : ((hp.push (PySem.W.kdv_tup [])).push (PySem.HandSPX.excO C hp.objs.size)).get? (hp.objs.size + 1) = some (PySem.HandSPX.excO C hp.objs.size) := by heap_get
  have I2 : Inv X pins σ (upd H (hp.objs.size + 1) (exo (hp.objs.size + 1) C none)) ⟨(hp.push (PySem.W.kdv_tup [])).push (PySem.HandSPX.excO C hp.objs.size), g, dr, tk, os⟩ :=
    I.laid (t' := tk) (a := hp.objs.size + 1) (o := exo (hp.objs.size + 1) C none) (h' := (hp.push (PySem.W.kdv_tup [])).push (PySem.HandSPX.excO C hp.objs.size)) kk hsz (exo_ok hget)
  have r2 : Vals (V.ref (hp.objs.size + 1) :: ([] ++ dvs)) (Value.ref (hp.objs.size + 1) :: ds) := .cons rfl hd
  have hl : (Value.ref (hp.objs.size + 1) :: [] ++ ds).length = ps.length := by
    have e := r2.length
    rw [F1.len _ _ _ _ hq] at e
    exact e.symm
  have hb2 := hb _ (Value.ref (hp.objs.size + 1) :: []) I2.kIn hl
  simp only [List.cons_append, List.nil_append] at hb2
  have hus : ([] : List Value).length ≤ sizeLine := Nat.zero_le _
  refine wpAny_call (PySem.HandSPX.call_own F.excBase_ValueError (fun Y => PySem.HandSPX.refsVE_contains Y bm hbm) (I.kIn _ _ hC) (PySem.W.looks_findIn I.kIn iC) (fun self => PySem.W.bind_fn I.kIn self tI) hus
    (codeAny_mono (F1.run _ X.stack _ _ ⟨Value.ref (hp.objs.size + 1) :: [], []⟩ (Value.ref (hp.objs.size + 1) :: ds) _ _ (fun _ _ _ => False) (hr.make C [] []) (I2.env0.make C [] []) hb2 r2 hq) fun r s' hq' => ?_))
  cases r with
  | error er => exact hx pins σ _ _ er s' I2 hq'
  | ok fl =>
    cases fl with
    | ret u =>
      obtain ⟨v, H2, os2, bare2, un2, hok2, rv, ev, d, fs, ea, ed, hd1, q2⟩ := hq'
      subst ev
      obtain ⟨h2, g2, d2, t2, os'⟩ := s'
      exact ⟨rv, mk_end (raises_own T.exC T.tyC) I hsz kk un2 hok2 os2 bare2 ea ed hd1 q2⟩
    | next => exact False.elim hq'
    | brk => exact False.elim hq'
    | cont => exact False.elim hq'
end

/-! ### the __init__s -/
def lenInit {K : PySem.W.Frag} {n : Nat} {fns : List Str} {g : List V → List (Str × V)} {ps : List Str} (hp : ps.length = n + 1) : ∀ vs H Q E, spInit K n fns g vs H Q E → vs.length = ps.length := fun vs H Q E h => by
  obtain ⟨a, C, ws, rfl, hl, _⟩ := h
  rw [List.length_cons, hl, hp]
section
variable {P : Program} {w : World} {K : PySem.W.Frag} {mg : Str → Option Value} {base : Heap} {x qual : Str} {params : Arguments} {scope : Scope} {dvs : List V} {kws : List (Str × V)} {f : Addr} {fd : FuncData}
theorem star2 {a b : Expr} (env : Env) (h : starred a = false) : starEach (a :: [b]) env = (false, eval a env) :: starEach [b] env := star_cons h _ _
/-- def __init__(self, word): ValueError.__init__(self, word); self.word = word -/
theorem init_word {p1 p2 p3 p4 p5 p6 p7 p8 p9 p10 : Pos} (F : FunD K x qual params [.Expr (.Call (.Attribute (.Name "ValueError" p1) "__init__" p2) [.Name "self" p3, .Name "word" p4] [] p5) p6, .Assign [.Attribute (.Name "self" p7) "word" p8] (.Name "word" p9) p10] scope dvs kws f fd)
    (S : FnScope ["self", "word"] ["self", "word"] scope) (hs : scope.names.lookup ("self" : Str) = some .local) (hw : scope.names.lookup ("word" : Str) = some .local) (hpp : (p2.endLine == p5.line) = true) (hv : scope.names.lookup ("ValueError" : Str) = some .globalImplicit) (hm : mg "ValueError" = none)
    (vV : PySem.W.findCls K (.type "ValueError") (.type "type") "__init__" = some (.val (.builtin "ValueError.__init__"))) :
    FnOk P w K mg base (L2.CX P w) 1 f fd ["self", "word"] (spInit K 1 ["word"] fun ws => ws.map fun y => ("word", y)) := by
  refine F.ok S (lenInit rfl) fun cdv A outer s H vs Q E hr hsp => ?_
  have v0 : ∀ {p : Pos}, PE (cxOf (L2.CX P w) P w K mg base ["self", "word"] qual scope f cdv A outer s H E) (.Name "self" p) (tVar 0) := fun {p} => pe_var rfl (.inl hs)
  have v1 : ∀ {p : Pos}, PE (cxOf (L2.CX P w) P w K mg base ["self", "word"] qual scope f cdv A outer s H E) (.Name "word" p) (tVar 1) := fun {p} => pe_var rfl (.inl hw)
  refine ⟨_, pss_cons (ps_expr (pe_veinit hv hm vV (pa_cons v0 (pa_cons v1 pa_nil)) (hc := mcall_eq _ rfl rfl hpp))) (pss_cons (ps_ost v0 v1) pss_nil), ?_⟩
  obtain ⟨a, C, ws, rfl, hl, T, hf, ha, q⟩ := hsp
  match ws, hl with
  | [y], _ =>
    refine ⟨.ref a, rfl, y, rfl, a, C, [y], rfl, by simp, T, ha, ?_⟩
    refine ⟨y, rfl, .ref a, rfl, a, C, rfl, T, hf _ (by simp), .inl ⟨ha, fun dx hd hda => ?_⟩⟩
    refine q dx _ hd hda upd_same ?_ fun b h1 h2 => ?_
    · rw [upd_ne hda, upd_same]; rfl
    · rw [upd_ne h1, upd_ne h2]
/-- def __init__(self): B.__init__(self, "..") -/
theorem init_none {p1 p2 p3 p4 p5 p6 : Pos} {kd : Nat} {b wd : Str} {B fB : Addr} {mc : Value} {fdB : FuncData} (F : FunD K x qual params [.Expr (.Call (.Attribute (.Name b p1) "__init__" p2) [.Name "self" p3, .Constant (.str wd) kd p4] [] p5) p6] scope dvs kws f fd)
    (S : FnScope ["self"] ["self"] scope) (hs : scope.names.lookup ("self" : Str) = some .local) (hpp : (p2.endLine == p5.line) = true) (hv : scope.names.lookup b = some .globalImplicit) (hdb : (b == ("__debug__" : Str)) = false) (hm : mg b = some (.ref B)) (r : ClX.CRead K B mc) (fc : PySem.W.findCls K (.ref B) mc "__init__" = some (.val (.ref fB)))
    (hk : PySem.W.keepIn K (.ref fB) = true) (FB : FnOk P w K mg base (L2.CX P w) 1 fB fdB ["self", "word"] (spInit K 1 ["word"] fun ws => ws.map fun y => ("word", y))) (hb : Binds K fdB ["self", "word"] []) :
    FnOk P w K mg base (L2.CX P w) 2 f fd ["self"] (spInit K 0 ["word"] fun _ => [("word", .str wd)]) := by
  refine F.ok S (lenInit rfl) fun cdv A outer s H vs Q E hr hsp => ?_
  have v0 : ∀ {p : Pos}, PE (cxOf (L2.CX P w) P w K mg base ["self"] qual scope f cdv A outer s H E) (.Name "self" p) (tVar 0) := fun {p} => pe_var rfl (.inl hs)
  have tk : Takes (cxOf (L2.CX P w) P w K mg base ["self"] qual scope f cdv A outer s H E) (fun c d _ H => E c d H) := takes_of rfl rfl rfl rfl
  refine ⟨_, pss_cons (ps_expr (pe_binit (E := fun _ _ _ => False) hv hm r fc hk FB hr hb (passes_call tk fun _ _ _ _ z => z.elim) (pa_cons v0 (pa_cons pe_str pa_nil)) hdb (hc := mcall_eq _ rfl rfl hpp))) pss_nil, ?_⟩
  obtain ⟨a, C, ws, rfl, hl, T, hf, ha, q⟩ := hsp
  match ws, hl with
  | [], _ =>
    refine ⟨.ref a, rfl, a, C, [.str wd], rfl, rfl, T, hf, ha, fun dx H' h1 h2 h3 h4 h5 => ?_⟩
    exact q dx H' h1 h2 h3 h4 h5
/-- def __init__(self, y): B.__init__(self, ".."); self.y = y -/
theorem init_one {p1 p2 p3 p4 p5 p6 p7 p8 p9 p10 : Pos} {kd : Nat} {b wd y : Str} {B fB : Addr} {mc : Value} {fdB : FuncData} (F : FunD K x qual params [.Expr (.Call (.Attribute (.Name b p1) "__init__" p2) [.Name "self" p3, .Constant (.str wd) kd p4] [] p5) p6, .Assign [.Attribute (.Name "self" p7) y p8] (.Name y p9) p10] scope dvs kws f fd)
    (S : FnScope ["self", y] ["self", y] scope) (hs : scope.names.lookup ("self" : Str) = some .local) (hy : scope.names.lookup y = some .local) (hdy : (y == ("__debug__" : Str)) = false) (hcy : (y == ("__classdict__" : Str)) = false) (hpp : (p2.endLine == p5.line) = true) (hv : scope.names.lookup b = some .globalImplicit) (hdb : (b == ("__debug__" : Str)) = false) (hm : mg b = some (.ref B)) (r : ClX.CRead K B mc) (fc : PySem.W.findCls K (.ref B) mc "__init__" = some (.val (.ref fB)))
    (hk : PySem.W.keepIn K (.ref fB) = true) (FB : FnOk P w K mg base (L2.CX P w) 1 fB fdB ["self", "word"] (spInit K 1 ["word"] fun ws => ws.map fun y => ("word", y))) (hb : Binds K fdB ["self", "word"] []) :
    FnOk P w K mg base (L2.CX P w) 2 f fd ["self", y] (spInit K 1 ["word", y] fun ws => ws.map (fun v => (y, v)) ++ [(("word" : Str), V.str wd)]) := by
  refine F.ok S (lenInit rfl) fun cdv A outer s H vs Q E hr hsp => ?_
  have v0 : ∀ {p : Pos}, PE (cxOf (L2.CX P w) P w K mg base ["self", y] qual scope f cdv A outer s H E) (.Name "self" p) (tVar 0) := fun {p} => pe_var rfl (.inl hs)
  have v1 : ∀ {p : Pos}, PE (cxOf (L2.CX P w) P w K mg base ["self", y] qual scope f cdv A outer s H E) (.Name y p) (tVar 1) := fun {p} => pe_var rfl (.inl hy) hdy hcy
  have tk : Takes (cxOf (L2.CX P w) P w K mg base ["self", y] qual scope f cdv A outer s H E) (fun c d _ H => E c d H) := takes_of rfl rfl rfl rfl
  refine ⟨_, pss_cons (ps_expr (pe_binit (E := fun _ _ _ => False) hv hm r fc hk FB hr hb (passes_call tk fun _ _ _ _ z => z.elim) (pa_cons v0 (pa_cons pe_str pa_nil)) hdb (hc := mcall_eq _ rfl rfl hpp))) (pss_cons (ps_ost v0 v1) pss_nil), ?_⟩
  obtain ⟨a, C, ws, rfl, hl, T, hf, ha, q⟩ := hsp
  match ws, hl with
  | [v], _ =>
    refine ⟨.ref a, rfl, a, C, [.str wd], rfl, rfl, T, fun f hm => hf f (by simp at hm; simp [hm]), ha, fun dx H' h1 h2 h3 h4 h5 => ?_⟩
    refine ⟨v, rfl, .ref a, rfl, a, C, rfl, T, hf _ (by simp), .inr ⟨dx, _, h3, h4, by simp, ?_⟩⟩
    refine q dx _ h1 h2 ?_ ?_ fun b h6 h7 => ?_
    · rw [upd_ne (Ne.symm h2)]; exact h3
    · rw [upd_same]; rfl
    · rw [upd_ne h7]; exact h5 b h6 h7
end
end Far

set_option Elab.async false
set_option linter.all false
set_option maxRecDepth 100000
set_option maxHeartbeats 4000000
/-! raise, try; the checker of statements; all statements. -/
namespace Far
open PySem PySem.Spec PyProof.Rows L2

/-- the error class c may be raised -/
def RsC0 (N : Cn) (P : Program) (w : World) (K : PySem.W.Frag) (mg : Str → Option Value) (base : Heap) (c : Str) : Prop := ∃ (C fI : Addr) (fd : FuncData) (ps : List Str) (n : Nat) (fns : List Str) (g : List V → List (Str × V)), mg c = some (.ref C) ∧ OexC K C ∧ (∀ f ∈ fns, PySem.W.findIn K (.ref C) f = some none) ∧
  PySem.W.findIn K (.ref C) "__init__" = some (some (.ref fI)) ∧ PySem.W.typeIn K (.ref fI) = some (.type "function") ∧ FnOk P w K mg base (L2.CX P w) 2 fI fd ps (spInit K n fns g) ∧ Binds K fd ps [] ∧
  ∀ us fs, N.xm c us = some fs → us.length = n ∧ n ≤ 1000 ∧ ∀ F rho vs, CVs K w F rho us vs → ∀ f u, fs.lookup f = some u → ∃ v, (g vs).lookup f = some v ∧ CV K w F rho u v
def RsC (N : Cn) (X : Cx) (c : Str) : Prop := RsC0 N X.prog X.w X.K X.mg X.base c
/-- fields of errors -/
def XfOk (N : Cn) (X : Cx) : Prop := ∀ c f, N.fld c f = true → ∃ C, X.mg c = some (.ref C) ∧ XfC X.K C ∧ PySem.W.findIn X.K (.ref C) f = some none
structure SXk (xs hs : List Str) (N : Cn) (cf : CF) (k : Ck) (X : Cx) (W : WX) : Prop where
  ok : XOk N cf k X W
  hp : PassesOwn (model X.prog X.w) X.A X.env X.xe
  stk : X.stack = X.env :: X.outer
  frm : X.env.frame = some X.env.locals
  rse : ∀ c ∈ xs, RsC N X c
  han : ∀ c ∈ hs, ∃ v, X.mg c = some v
  room3 : Room 3 X.A
  sub : ∀ e c b, N.sub e c = some b → ∃ ve vc, X.mg e = some ve ∧ X.mg c = some vc ∧ PySem.W.exmOne X.K ve vc = some b
  xfo : XfOk N X
section
variable {xs hs : List Str} {N : Cn} {cf : CF} {k : Ck} {X : Cx} {W : WX} {F0 H0 : Hp} {rho0 : List Addr}
theorem SXk.tr (o : SXk xs hs N cf k X W) {W' : WX} {pn : List (Addr × Obj)} {xe : Value → Shared → Prop} (tk : Takes (X.tr pn xe) W') (hp : PassesOwn (model X.prog X.w) X.A X.env xe) : SXk xs hs N cf k (X.tr pn xe) W' where
  ok := ⟨o.ok.ns, o.ok.sc, o.ok.fn, o.ok.nd, o.ok.calm, o.ok.room, o.ok.con, o.ok.free, tk, o.ok.calls⟩
  hp := hp
  stk := o.stk
  frm := o.frm
  rse := o.rse
  han := o.han
  room3 := o.room3
  sub := o.sub
  xfo := o.xfo

/-! ### raise -/
theorem rse_end {K : PySem.W.Frag} {w : World} {mg : Str → Option Value} {F H1 H2 : Hp} {rho : List Addr} {S : Sto} {σ : Slots} {sv : L2.St} {c : Str} {us : List U} {vs : List V} {fs : List (Str × U)} {gs : List (Str × V)} {C a d : Addr} {D : Ends} {W : WX}
    (fsx : FS K w F0 H0 rho0 F H1 rho S σ sv) (cs : CVs K w F rho us vs) (hm : mg c = some (.ref C)) (rel : ∀ f u, fs.lookup f = some u → ∃ v, gs.lookup f = some v ∧ CV K w F rho u v)
    (q : PostS K w mg F0 H0 rho0 F rho (.exc ⟨c, fs⟩ σ S) D W) (ha : H1 a = none) (hd : H1 d = none) (hda : d ≠ a) (h2 : ∀ b, b ≠ a → b ≠ d → H2 b = upd H1 a (exo a C none) b) : W (.ref C) (some d) sv (upd (del H2 a) d (.xd gs)) := by
  have eH : upd (del H2 a) d (.xd gs) = upd H1 d (.xd gs) := by
    funext b
    by_cases z : b = d
    · subst z; rw [upd_same, upd_same]
    · rw [upd_ne z, upd_ne z]
      by_cases y : b = a
      · subst y; rw [del_same]; exact ha.symm
      · rw [del_ne y, h2 b y z, upd_ne y]
  rw [eH]
  have fd : F d = none := fsx.st.sub.free hd
  have g : Grow F H1 rho (upd F d (.xd gs)) (upd H1 d (.xd gs)) rho := Grow.new fsx.st.sub hd
  have st : St K w (upd F d (.xd gs)) (upd H1 d (.xd gs)) rho S := fsx.st.froze fd (fsx.st.new hd)
  refine q _ _ _ _ _ sv (fsx.grow g st) g.fex g.rex ⟨hm, d, gs, rfl, upd_same, fun f u e => ?_⟩
  obtain ⟨v, e1, e2⟩ := rel f u e
  exact ⟨v, e1, e2.mono g.fex g.rex⟩
theorem s_rse (o : SXk xs hs N cf k X W) {c : Str} {es : LEs} {ys : List Expr} {p p2 p3 : Pos} (hc : c ∈ xs) (hg : glB k.sc c = true) (hes : chkEs k es ys = true) :
    PS X (.Raise (some (.Call (.Name c p) ys [] p2)) none p3) (rdS N cf X.K X.w X.mg F0 H0 rho0 W (.rse c es)) := by
  obtain ⟨C, fI, fd, ps, n, fns, g, hm, T, hf, iC, tI, FI, hb, rel⟩ := o.rse c hc
  obtain ⟨g1, g2, g3⟩ := o.ok.gl hg
  have hpas : Passes (L2.CX X.prog X.w) X (fun _ _ _ => False) := passes_call o.ok.takes fun _ _ _ _ z => z.elim
  cases ys with
  | nil =>
    cases es with
    | cons e es => cases hes
    | nil =>
      refine PS.imp (ps_raise o.ok.calm o.ok.takes (pmk_oex0 T iC tI FI o.room3 hb .nil hpas g1 hm g2)) fun D sv H q => ?_
      obtain ⟨F, rho, σ, S, fs, q⟩ := q
      simp only [evS, evEs, R.then_ok] at q
      cases ex : N.xm c [] with
      | none => rw [ex] at q; exact q.elim
      | some xf =>
        rw [ex] at q
        obtain ⟨hl, _, rl⟩ := rel _ _ ex
        refine ⟨by simp, fun a ha => ⟨a, C, [], rfl, hl, T, hf, upd_same, fun dx H' h1 h2 h3 h4 h5 => ⟨rfl, dx, g [], h3, h4, ?_, ?_⟩⟩⟩
        · rw [upd_ne h2] at h1; exact h1
        · rw [upd_ne h2] at h1
          exact rse_end fs .nil hm (rl _ _ _ .nil) q ha h1 h2 h5
  | cons y ys =>
    have hst : starred y = false := by
      cases es with
      | nil => cases hes
      | cons e es =>
        unfold chkEs at hes
        simpa using (ba hes).1
    have hpl : (backTo p2 (starEach ys X.env)).any (·.1) = false := by
      cases es with
      | nil => cases hes
      | cons e es =>
        unfold chkEs at hes
        exact any_star (ba (ba hes).2).2 _ _
    refine PS.imp (ps_raise o.ok.calm o.ok.takes (pmk_oex T iC tI FI o.room3 hb .nil hpas g1 hm (sndEs es _ o.ok hes) g2 (star_cons hst _ _) hpl)) fun D sv H q => ?_
    obtain ⟨F, rho, σ, S, fs, q⟩ := q
    simp only [evS] at q
    refine ⟨F, rho, σ, S, fs.st, fs.sl, (q.expr fs).imp fun vs H1 ⟨us, S1, F1, rho1, fs1, c1, q1, _⟩ => ?_⟩
    cases ex : N.xm c us with
    | none => rw [ex] at q1; exact q1.elim
    | some xf =>
      rw [ex] at q1
      obtain ⟨hl, hn, rl⟩ := rel _ _ ex
      have c1' : CVs X.K X.w F1 rho1 us vs := c1
      refine ⟨by rw [← c1'.length, hl]; exact hn, fun a ha => ⟨a, C, vs, by simp, by rw [← c1'.length]; exact hl, T, hf, upd_same, fun dx H' h1 h2 h3 h4 h5 => ⟨rfl, dx, g vs, h3, h4, ?_, ?_⟩⟩⟩
      · rw [upd_ne h2] at h1; exact h1
      · rw [upd_ne h2] at h1
        exact rse_end fs1 c1' hm (rl _ _ _ c1') q1 ha h1 h2 h5

/-! ### suites of handlers -/
def constOk : U → Expr → Bool
  | .int i, .Constant (.int j) _ _ => i == j
  | .bl b, .Constant (.bool d) _ _ => b == d
  | .str x, .Constant (.str y) _ _ => x == y
  | .non, .Constant .none _ _ => true
  | _, _ => false
theorem const_ok {u : U} {e : Expr} (h : constOk u e = true) {Y : Cx} : ∃ v, PE Y e (tC v) ∧ ∀ F rho, CV Y.K Y.w F rho u v := by
  unfold constOk at h
  split at h
  · exact ⟨_, by rw [eq_of_beq h]; exact pe_int, fun _ _ => .int _⟩
  · exact ⟨_, by rw [eq_of_beq h]; exact pe_bl, fun _ _ => .bl _⟩
  · exact ⟨_, by rw [eq_of_beq h]; exact pe_str, fun _ _ => .str _⟩
  · exact ⟨_, pe_non, fun _ _ => .non⟩
  · cases h
mutual
/-- i: the slot of the caught error, by name -/
def chkX (k : Ck) (i : Option (Nat × Str)) : XE → Expr → Bool
  | .c u, e => constOk u e
  | .v j, e => (match e with
    | .Name x _ => k.vis j x && (match i with
      | some p => !(p.1 == j)
      | none => true)
    | _ => false)
  | .xf f, e => (match i, e with
    | some p, .Attribute (.Name x _) g _ => k.vis p.1 x && (x == p.2 && g == f)
    | _, _ => false)
  | .tup es, e => (match e with
    | .Tuple xs _ _ => chkXs k i es xs
    | _ => false)
def chkXs (k : Ck) (i : Option (Nat × Str)) : List XE → List Expr → Bool
  | [], [] => true
  | e :: es, x :: xs => !starred x && (chkX k i e x && chkXs k i es xs)
  | _, _ => false
end
theorem XOk.stoOk (o : XOk N cf k X W) {i : Nat} {x : Str} (h : k.sto i x = true) : X.N[i]? = some x ∧ Loc X.env.scope x ∧ (X.fn x = true ∨ X.env.scope.names.lookup x = some .local) := by
  unfold Ck.sto at h
  obtain ⟨h1, h2⟩ := ba h
  rw [o.ns, o.sc]
  refine ⟨by simpa using h1, ?_⟩
  rcases Bool.or_eq_true_iff.mp h2 with h3 | h3
  · have h3' : k.sc.names.lookup x = some .local := by simpa using h3
    exact ⟨.inl h3', .inr h3'⟩
  · obtain ⟨h4, h5⟩ := ba h3
    exact ⟨.inr (by simpa using h4), .inl (o.fn x h5)⟩
/-- in a suite: a the error, cls its class, d its dict, x what the evaluator knows of it -/
structure SuOk (K : PySem.W.Frag) (w : World) (mg : Str → Option Value) (i : Option (Nat × Str)) (a : Addr) (cls : Value) (d : Option Addr) (x : Exc) (F H : Hp) (rho : List Addr) (S : Sto) (σ : Slots) (sv : L2.St) : Prop where
  st : St K w F H rho S
  sl : SlotsOk K w F H rho σ sv
  xr : XR K w mg F rho x cls d
  at_ : ∀ p, i = some p → sv[p.1]? = some (some (.ref a))
def rdX (N : Cn) (K : PySem.W.Frag) (w : World) (mg : Str → Option Value) (i : Option (Nat × Str)) (a : Addr) (cls : Value) (d : Option Addr) (e : XE) : TE := fun sv H Q => ∃ F rho S σ x u, SuOk K w mg i a cls d x F H rho S σ sv ∧ evX N x σ e = some u ∧
  ∀ v F' H', Grow F H rho F' H' rho → Same F' H' → Same H H' → CV K w F' rho u v → Q v H'
def rdXs (N : Cn) (K : PySem.W.Frag) (w : World) (mg : Str → Option Value) (i : Option (Nat × Str)) (a : Addr) (cls : Value) (d : Option Addr) (e : List XE) : TA := fun sv H Q => ∃ F rho S σ x us, SuOk K w mg i a cls d x F H rho S σ sv ∧ evXs N x σ e = some us ∧
  ∀ vs F' H', Grow F H rho F' H' rho → Same F' H' → Same H H' → CVs K w F' rho us vs → Q vs H'
theorem SuOk.more {K : PySem.W.Frag} {w : World} {mg : Str → Option Value} {i : Option (Nat × Str)} {a : Addr} {cls : Value} {d : Option Addr} {x : Exc} {F H F' H' : Hp} {rho : List Addr} {S : Sto} {σ : Slots} {sv : L2.St} (s : SuOk K w mg i a cls d x F H rho S σ sv) (g : Grow F H rho F' H' rho) (s1 : Same F' H') (s2 : Same H H') : SuOk K w mg i a cls d x F' H' rho S σ sv :=
  ⟨s.st.more g s1 s2, s.sl.grow g, by
    obtain ⟨h1, dx, fs, e1, e2, e3⟩ := s.xr
    refine ⟨h1, dx, fs, e1, g.fex _ _ e2, fun f u e => ?_⟩
    obtain ⟨v, q1, q2⟩ := e3 f u e
    exact ⟨v, q1, q2.mono g.fex g.rex⟩, s.at_⟩
theorem evXs_len {x : Exc} {σ : Slots} : ∀ {es : List XE} {us : List U}, evXs N x σ es = some us → us.length = es.length
  | [], us, h => by unfold evXs at h; cases h; rfl
  | e :: es, us, h => by
    unfold evXs at h
    simp only [Option.bind_eq_some_iff, Option.map_eq_some_iff] at h
    obtain ⟨u, _, us', h2, rfl⟩ := h
    rw [List.length_cons, List.length_cons, evXs_len h2]
mutual
theorem sndX (o : XOk N cf k X W) (xo : XfOk N X) {i : Option (Nat × Str)} {a : Addr} {oe : Obj} {cls : Value} {d : Option Addr} {pn : List (Addr × Obj)} (hz : Zc cls d oe) (hf : ∃ vs, oe.data = .fields vs) : ∀ (e : XE) (y : Expr), chkX k i e y = true → PE (X.suite a ((a, oe) :: pn)) y (rdX N X.K X.w X.mg i a cls d e)
  | .c u, y, h => by
    unfold chkX at h
    obtain ⟨v, hv, cv⟩ := const_ok h (Y := X.suite a ((a, oe) :: pn))
    refine PE.imp hv fun sv H Q q => ?_
    obtain ⟨F, rho, S, σ, x, u', s, e, q⟩ := q
    unfold evX at e
    cases e
    exact q v F H (Grow.refl _ _ _) s.st.sub (Same.refl _) (cv F rho)
  | .v j, y, h => by
    unfold chkX at h
    split at h
    · obtain ⟨h1, _⟩ := ba h
      obtain ⟨n1, n2, n3, n4⟩ := o.vis h1
      refine PE.imp (pe_var (X := X.suite a ((a, oe) :: pn)) n1 n2 n3 n4) fun sv H Q q => ?_
      obtain ⟨F, rho, S, σ, x, u', s, e, q⟩ := q
      unfold evX at e
      split at e
      · rename_i u hu
        cases e
        obtain ⟨ov, e1, v, rfl, c⟩ := s.sl.at_ j _ hu
        exact ⟨v, e1, q v F H (Grow.refl _ _ _) s.st.sub (Same.refl _) c⟩
      · cases e
    · cases h
  | .xf f, y, h => by
    unfold chkX at h
    split at h
    · rename_i i' p y' x' xp g pp
      obtain ⟨h1, h2⟩ := ba h
      obtain ⟨h3, h4⟩ := ba h2
      obtain ⟨n1, n2, n3, n4⟩ := o.vis h1
      have h4' := eq_of_beq h4
      subst h4'
      by_cases hc : ∃ C, cls = .ref C ∧ XfC X.K C ∧ PySem.W.findIn X.K (.ref C) g = some none
      · obtain ⟨C, hC, T, hno⟩ := hc
        refine PE.imp (pe_xf T hno hz hf (pe_var (X := X.suite a ((a, oe) :: pn)) n1 n2 n3 n4)) fun sv H Q q => ?_
        obtain ⟨F, rho, S, σ, x, u', s, e, q⟩ := q
        unfold evX at e
        split at e
        · obtain ⟨_, dx, fs, e1, e2, e3⟩ := s.xr
          obtain ⟨v, q1, q2⟩ := e3 g u' e
          exact ⟨_, s.at_ _ rfl, rfl, hC, dx, fs, v, e1, s.st.sub _ _ e2, q1, q v F H (Grow.refl _ _ _) s.st.sub (Same.refl _) q2⟩
        · cases e
      · refine ⟨fun pins s σ H Q I q => ?_⟩
        obtain ⟨F, rho, S, σ, x, u', s, e, q⟩ := q
        unfold evX at e
        split at e
        · rename_i hfl
          obtain ⟨C, m1, T, hno⟩ := xo _ _ hfl
          have m2 := s.xr.1
          rw [m1] at m2
          cases m2
          exact absurd ⟨C, rfl, T, hno⟩ hc
        · cases e
    · cases h
  | .tup es, y, h => by
    unfold chkX at h
    split at h
    · refine PE.imp (pe_tup (sndXs o xo hz hf es _ h)) fun sv H Q q => ?_
      obtain ⟨F, rho, S, σ, x, u', s, e, q⟩ := q
      unfold evX at e
      split at e
      · rename_i hl
        simp only [Option.map_eq_some_iff] at e
        obtain ⟨us, e1, rfl⟩ := e
        refine ⟨F, rho, S, σ, x, us, s, e1, fun vs F' H' g s1 s2 c => ?_⟩
        have hlen : us.length = es.length := evXs_len e1
        refine ⟨by rw [← c.length, hlen]; exact big_line hl, fun p np => ?_⟩
        have g2 : Grow F' H' rho (upd F' p (.tup vs)) (upd H' p (.tup vs)) rho := Grow.new s1 np
        refine q (.ref p) _ _ (g.trans g2) (fun b z e => ?_) (s2.trans (same_upd np (Same.refl _))) (.tup (.inl (.inl upd_same)) (c.mono g2.fex g2.rex))
        by_cases zb : b = p
        · subst zb; rw [upd_same] at e ⊢; exact e
        · rw [upd_ne zb] at e ⊢; exact s1 _ _ e
      · cases e
    · cases h
theorem sndXs (o : XOk N cf k X W) (xo : XfOk N X) {i : Option (Nat × Str)} {a : Addr} {oe : Obj} {cls : Value} {d : Option Addr} {pn : List (Addr × Obj)} (hz : Zc cls d oe) (hf : ∃ vs, oe.data = .fields vs) : ∀ (e : List XE) (y : List Expr), chkXs k i e y = true → PA (X.suite a ((a, oe) :: pn)) y (rdXs N X.K X.w X.mg i a cls d e)
  | [], [], h => PA.imp pa_nil fun sv H Q q => by
    obtain ⟨F, rho, S, σ, x, us, s, e, q⟩ := q
    unfold evXs at e
    cases e
    exact q [] F H (Grow.refl _ _ _) s.st.sub (Same.refl _) .nil
  | [], _ :: _, h => by unfold chkXs at h; cases h
  | _ :: _, [], h => by unfold chkXs at h; cases h
  | e :: es, y :: ys, h => by
    unfold chkXs at h
    obtain ⟨h1, h2⟩ := ba h
    obtain ⟨h3, h4⟩ := ba h2
    refine PA.imp (pa_cons (sndX o xo hz hf e y h3) (sndXs o xo hz hf es ys h4) (star_cons (by simpa using h1) _ _)) fun sv H Q q => ?_
    obtain ⟨F, rho, S, σ, x, us, s, e0, q⟩ := q
    unfold evXs at e0
    simp only [Option.bind_eq_some_iff, Option.map_eq_some_iff] at e0
    obtain ⟨u, e1, us', e2, rfl⟩ := e0
    refine ⟨F, rho, S, σ, x, u, s, e1, fun v F1 H1 g1 s1 s2 c1 => ?_⟩
    refine ⟨F1, rho, S, σ, x, us', s.more g1 s1 s2, e2, fun vs F2 H2 g2 s3 s4 c2 => ?_⟩
    exact q (v :: vs) F2 H2 (g1.trans g2) s3 (s2.trans s4) (.cons (c1.mono g2.fex g2.rex) c2)
end
/-- a suite -/
def chkSu (k : Ck) (i : Option (Nat × Str)) : XS → List Stmt → Bool
  | .ret e, [.Return (some y) _] => chkX k i e y
  | .asg j e, [.Assign [.Name x _] y _] => k.sto j x && ((match i with
    | some p => !(p.1 == j)
    | none => true) && (!comp y && chkX k i e y))
  | _, _ => false
theorem no_slots {K : PySem.W.Frag} {w : World} {F H : Hp} {rho : List Addr} {σ : Slots} {sv : L2.St} (h : SlotsOk K w F H rho σ sv) (i : Nat) (ov : Option V) : SlotsOk K w F H rho (σ.set i .no) (sv.set i ov) where
  len := by simp [h.len]
  at_ := fun j s e => by
    by_cases z : i = j
    · subst z
      have hi : i < σ.length := by
        have := (List.getElem?_eq_some_iff.mp e).1
        simpa using this
      rw [List.getElem?_set_self hi] at e
      cases e
      exact ⟨ov, by rw [List.getElem?_set_self (by rw [← h.len]; exact hi)], trivial⟩
    · rw [List.getElem?_set_ne z] at e
      obtain ⟨o, e1, ok⟩ := h.at_ j s e
      exact ⟨o, by rw [List.getElem?_set_ne z]; exact e1, ok⟩
  apart := fun j l us ws p h1 h2 h3 h4 => by
    have key : ∀ {m : Nat} {ts : List U}, (σ.set i .no)[m]? = some (.own ts) → m ≠ i ∧ σ[m]? = some (.own ts) := fun {m ts} e => by
      by_cases z : i = m
      · subst z
        have hi : i < σ.length := by
          have := (List.getElem?_eq_some_iff.mp e).1
          simpa using this
        rw [List.getElem?_set_self hi] at e
        cases e
      · rw [List.getElem?_set_ne z] at e
        exact ⟨Ne.symm z, e⟩
    obtain ⟨n1, q1⟩ := key h1
    obtain ⟨n2, q2⟩ := key h2
    rw [List.getElem?_set_ne (Ne.symm n1)] at h3
    rw [List.getElem?_set_ne (Ne.symm n2)] at h4
    exact h.apart j l us ws p q1 q2 h3 h4
theorem FS.no {K : PySem.W.Frag} {w : World} {F H : Hp} {rho : List Addr} {S : Sto} {σ : Slots} {sv : L2.St} (h : FS K w F0 H0 rho0 F H rho S σ sv) (i : Nat) (ov : Option V) : FS K w F0 H0 rho0 F H rho S (σ.set i .no) (sv.set i ov) :=
  ⟨h.st, no_slots h.sl i ov, h.gr, fun j us p e1 e2 => by
    by_cases z : i = j
    · subst z
      have hi : i < σ.length := by
        have := (List.getElem?_eq_some_iff.mp e1).1
        simpa using this
      rw [List.getElem?_set_self hi] at e1
      cases e1
    · rw [List.getElem?_set_ne z] at e1 e2
      exact h.fr j us p e1 e2⟩
/-- the slot of the error behind the suite -/
def unD (nm : Option Nat) (D : Ends) : Ends := match nm with
  | some i => { nx := fun σ' H' => D.nx (σ'.set i none) H', rt := D.rt, bk := fun σ' H' => D.bk (σ'.set i none) H', ct := fun σ' H' => D.ct (σ'.set i none) H' }
  | none => D
/-- the reading of a suite -/
def rdSu (N : Cn) (K : PySem.W.Frag) (w : World) (mg : Str → Option Value) (i : Option (Nat × Str)) (a : Addr) (cls : Value) (d : Option Addr) (su : XS) : TS := fun D sv H => match su with
  | .ret e => rdX N K w mg i a cls d e sv H D.rt
  | .asg j e => rdX N K w mg i a cls d e sv H fun v H' => D.nx (sv.set j (some v)) H'
theorem sndSu (o : XOk N cf k X W) (xo : XfOk N X) {i : Option (Nat × Str)} {a : Addr} {oe : Obj} {cls : Value} {d : Option Addr} {pn : List (Addr × Obj)} (hz : Zc cls d oe) (hf : ∃ vs, oe.data = .fields vs) {su : XS} {ys : List Stmt} (h : chkSu k i su ys = true) : PSs (X.suite a ((a, oe) :: pn)) ys (rdSu N X.K X.w X.mg i a cls d su) := by
  unfold chkSu at h
  split at h
  · exact PSs.imp (pss_cons (ps_ret (sndX o xo hz hf _ _ h)) pss_nil) fun D sv H q => q
  · obtain ⟨h1, h2⟩ := ba h
    obtain ⟨h3, h4⟩ := ba h2
    obtain ⟨h5, h6⟩ := ba h4
    obtain ⟨n1, n2, n3⟩ := o.stoOk h1
    exact PSs.imp (pss_cons (ps_asg (sndX o xo hz hf _ _ h6) (pg_name (X := X.suite a ((a, oe) :: pn)) o.nd n1 n2 n3) (sws_plain (by simpa using h5) _ _ _) (noSwap_ok (sc := X.env.scope) rfl rfl) rfl) pss_nil) fun D sv H q => q
  · cases h
def nmSv (nm : Option Nat) (a : Addr) (sv : L2.St) : L2.St := match nm with
  | some i => sv.set i (some (.ref a))
  | none => sv
/-- what the evaluator says of a suite is what its reading wants -/
theorem su_end {nm : Option Nat} {x : Str} {K : PySem.W.Frag} {w : World} {mg : Str → Option Value} {a : Addr} {cls : Value} {d : Option Addr} {x1 : Exc} {F H : Hp} {rho : List Addr} {S : Sto} {σ : Slots} {sv : L2.St} {su : XS} {D : Ends} (fs : FS K w F0 H0 rho0 F H rho S σ sv) (xr : XR K w mg F rho x1 cls d) (q : PostS K w mg F0 H0 rho0 F rho (evSu N x1 nm su σ S) D W) : rdSu N K w mg (nm.map fun i => (i, x)) a cls d su (unD nm D) (nmSv nm a sv) H := by
  have hi : okN nm σ = true := by
    by_cases z : okN nm σ = true
    · exact z
    · unfold evSu at q
      rw [if_neg z] at q
      exact q.elim
  have so : SuOk K w mg (nm.map fun i => (i, x)) a cls d x1 F H rho S (unname nm σ) (nmSv nm a sv) := by
    cases nm with
    | none => exact ⟨fs.st, fs.sl, xr, fun p hp => by cases hp⟩
    | some i =>
      refine ⟨fs.st, no_slots fs.sl i _, xr, fun p hp => ?_⟩
      cases hp
      exact List.getElem?_set_self (by rw [← fs.sl.len]; exact of_decide_eq_true hi)
  cases su with
  | ret e =>
    unfold evSu at q
    rw [if_pos hi] at q
    simp only at q
    cases ex : evX N x1 (unname nm σ) e with
    | none => rw [ex] at q; exact q.elim
    | some u =>
      rw [ex] at q
      refine ⟨F, rho, S, _, x1, u, so, ex, fun v F' H' g s1 s2 c => ?_⟩
      have r := q v F' H' rho (fs.gr.trans g) (fs.st.more g s1 s2) c
      cases nm <;> exact r
  | asg j e =>
    unfold evSu at q
    rw [if_pos hi] at q
    simp only at q
    cases ex : evX N x1 (unname nm σ) e with
    | none => rw [ex] at q; exact q.elim
    | some u =>
      rw [ex] at q
      refine ⟨F, rho, S, _, x1, u, so, ex, fun v F' H' g s1 s2 c => ?_⟩
      have ea : ∀ τ, Far.assign (.nm j) u τ = some (τ.set j (.val u)) := fun τ => by unfold Far.assign; rfl
      cases nm with
      | none =>
        have fs2 := fs.grow g (fs.st.more g s1 s2)
        exact q F' H' rho _ (fs2.assign (ea _) (Grow.refl _ _ _) fs2.st (set_slots fs2.sl c) (But.set _ _ _)) g.fex g.rex
      | some i =>
        have fs2 := (fs.grow g (fs.st.more g s1 s2)).no i (some (.ref a))
        have fs3 := fs2.assign (ea _) (Grow.refl _ _ _) fs2.st (set_slots fs2.sl c) (But.set j _ (some v))
        exact q F' H' rho _ (fs3.no i none) g.fex g.rex
/-! ### try -/
theorem PostS.excTo {r : RS} {D : Ends} {W W' : WX} {K : PySem.W.Frag} {w : World} {mg : Str → Option Value} {Fs : Hp} {rs : List Addr} (h : ∀ x σ S, r = .exc x σ S → PostS K w mg F0 H0 rho0 Fs rs (.exc x σ S) D W') (h2 : (∀ x σ S, r ≠ .exc x σ S) → PostS K w mg F0 H0 rho0 Fs rs r D W) : PostS K w mg F0 H0 rho0 Fs rs r D W' := by
  cases r with
  | exc x σ S => exact h x σ S rfl
  | nx σ S => exact h2 (fun _ _ _ z => by cases z)
  | rt u S => exact h2 (fun _ _ _ z => by cases z)
  | bk σ S => exact h2 (fun _ _ _ z => by cases z)
  | ct σ S => exact h2 (fun _ _ _ z => by cases z)
  | bad => exact h2 (fun _ _ _ z => by cases z)
theorem s_try (o : SXk xs hs N cf k X W) {body : LSs} {su : XS} {x : Str} {ss : List Stmt} {b0 : Stmt} {us : List Stmt} {np p p2 : Pos} (hx : x ∈ hs) (hg : glB k.sc x = true)
    (hb : ∀ (W' : WX) (pn : List (Addr × Obj)) (xe : Value → Shared → Prop), Takes (X.tr pn xe) W' → PassesOwn (model X.prog X.w) X.A X.env xe → PSs (X.tr pn xe) ss (rdSs N cf X.K X.w X.mg F0 H0 rho0 W' body)) (hu : chkSu k none su (b0 :: us) = true) :
    PS X (.Try ss [.ExceptHandler (some (.Name x np)) none (b0 :: us) p2] [] [] p) (rdS N cf X.K X.w X.mg F0 H0 rho0 W (.tri body [x] none su)) := by
  obtain ⟨c, hm⟩ := o.han x hx
  obtain ⟨g1, g2, g3⟩ := o.ok.gl hg
  refine PS.imp (ps_try_only (c := c) (tb := fun W' => rdSs N cf X.K X.w X.mg F0 H0 rho0 W' body) (ts := fun a cls d => rdSu N X.K X.w X.mg none a cls d su) o.stk o.frm ⟨g1, g2, .inl hm⟩ o.ok.takes hb (fun a oe cls d pn hz hf => sndSu o.ok o.xfo hz hf hu)) fun D sv H q => ?_
  obtain ⟨F, rho, σ, S, fs, q⟩ := q
  refine ⟨F, rho, σ, S, fs, ?_⟩
  unfold evS at q
  refine PostS.excTo (W := W) (fun x1 σ1 S1 e => ?_) (fun hn => ?_)
  · rw [e] at q
    simp only [subAny] at q
    intro c1 d1 F1 H1 rho1 sv1 fs1 e1 p1 xr
    cases hsub : N.sub x1.cls x with
    | none => rw [hsub] at q; exact q.elim
    | some b =>
      rw [hsub] at q
      obtain ⟨ve, vc, m1, m2, em⟩ := o.sub _ _ _ hsub
      rw [hm] at m2
      cases m2
      have m3 := xr.1
      rw [m1] at m3
      cases m3
      refine ⟨b, em, fun hb a na => ?_, fun hb => ?_⟩
      · subst hb
        exact su_end (nm := none) (x := x) fs1 xr (PostS.mono q e1 p1)
      · subst hb
        exact q _ _ F1 H1 rho1 sv1 fs1 e1 p1 xr
  · cases e : evSs N cf body σ S with
    | exc x σ S => exact absurd e (hn x σ S)
    | nx σ1 S1 => rw [e] at q; exact q
    | rt u S1 => rw [e] at q; exact q
    | bk σ1 S1 => rw [e] at q; exact q
    | ct σ1 S1 => rw [e] at q; exact q
    | bad => rw [e] at q; exact q
theorem s_tryAs (o : SXk xs hs N cf k X W) {body : LSs} {su : XS} {i : Nat} {x n : Str} {ss : List Stmt} {b0 : Stmt} {us : List Stmt} {np p p2 : Pos} (hx : x ∈ hs) (hg : glB k.sc x = true) (hi : k.ns[i]? = some n) (hln : k.sc.names.lookup n = some .local)
    (hb : ∀ (W' : WX) (pn : List (Addr × Obj)) (xe : Value → Shared → Prop), Takes (X.tr pn xe) W' → PassesOwn (model X.prog X.w) X.A X.env xe → PSs (X.tr pn xe) ss (rdSs N cf X.K X.w X.mg F0 H0 rho0 W' body)) (hu : chkSu k (some (i, n)) su (b0 :: us) = true) :
    PS X (.Try ss [.ExceptHandler (some (.Name x np)) (some n) (b0 :: us) p2] [] [] p) (rdS N cf X.K X.w X.mg F0 H0 rho0 W (.tri body [x] (some i) su)) := by
  obtain ⟨c, hm⟩ := o.han x hx
  obtain ⟨g1, g2, g3⟩ := o.ok.gl hg
  have hi' : X.N[i]? = some n := by rw [o.ok.ns]; exact hi
  have hl' : X.env.kindOf n = some .local := by
    show X.env.scope.names.lookup n = _
    rw [o.ok.sc]; exact hln
  refine PS.imp (ps_try_as (c := c) (i := i) (tb := fun W' => rdSs N cf X.K X.w X.mg F0 H0 rho0 W' body) (ts := fun a cls d => rdSu N X.K X.w X.mg (some (i, n)) a cls d su) o.stk o.frm o.ok.nd hi' hl' ⟨g1, g2, .inl hm⟩ o.ok.takes hb (fun a oe cls d pn hz hf => sndSu o.ok o.xfo hz hf hu)) fun D sv H q => ?_
  obtain ⟨F, rho, σ, S, fs, q⟩ := q
  refine ⟨F, rho, σ, S, fs, ?_⟩
  unfold evS at q
  refine PostS.excTo (W := W) (fun x1 σ1 S1 e => ?_) (fun hn => ?_)
  · rw [e] at q
    simp only [subAny] at q
    intro c1 d1 F1 H1 rho1 sv1 fs1 e1 p1 xr
    cases hsub : N.sub x1.cls x with
    | none => rw [hsub] at q; exact q.elim
    | some b =>
      rw [hsub] at q
      obtain ⟨ve, vc, m1, m2, em⟩ := o.sub _ _ _ hsub
      rw [hm] at m2
      cases m2
      have m3 := xr.1
      rw [m1] at m3
      cases m3
      refine ⟨b, em, fun hb a na => ?_, fun hb => ?_⟩
      · subst hb
        exact su_end (nm := some i) (x := n) fs1 xr (PostS.mono q e1 p1)
      · subst hb
        exact q _ _ F1 H1 rho1 sv1 fs1 e1 p1 xr
  · cases e : evSs N cf body σ S with
    | exc x σ S => exact absurd e (hn x σ S)
    | nx σ1 S1 => rw [e] at q; exact q
    | rt u S1 => rw [e] at q; exact q
    | bk σ1 S1 => rw [e] at q; exact q
    | ct σ1 S1 => rw [e] at q; exact q
    | bad => rw [e] at q; exact q
end

/-! ### the checker -/
/-- x = [.. for ..] -/
def chkLc (k : Ck) : LT → LE → Expr → Expr → Bool
  | .nm i, .lc own tg it cs a, .Name x p2, .ListComp elt gens scope p => k.ns[i]? == some x && (k.sc.names.lookup x == some .local && (k.sc.kind == .function && ((p2.line == p.line) && (!(scope.names.any fun (n, kk) => n == x && (kk == .local || kk == .cell)) && chkE k (.lc own tg it cs a) (.ListComp elt gens scope p)))))
  | _, _, _, _ => false
def isRel : LS → Bool
  | .relO _ => true
  | _ => false
/-- what makes a new list -/
def makesL : LE → Bool
  | .op _ _ _ => true
  | .m1 .split _ _ => true
  | _ => false
mutual
def chkS (xs hs : List Str) (k : Ck) : LS → Stmt → Bool
  | .asg t e, s => (match s with
    | .Assign [tg] v _ => (!starred tg && (!comp v && (noSwap k.sc tg v && (chkT k t tg && chkE k e v)))) || chkLc k t e tg v
    | _ => false)
  | .par is es, s => (match is, s with
    | [i, j], .Assign [.Tuple [.Name x px, .Name y py] _ _] (.Tuple [a, b] _ _) _ => k.ns[i]? == some x && (k.ns[j]? == some y && (i != j && (k.sc.names.lookup x == some .local && (k.sc.names.lookup y == some .local && (swapV k.sc [.Name x px, .Name y py] [a, b] == some (some [x, y]) && chkEs k es [a, b])))))
    | [i, j, l], .Assign [.Tuple [.Name x px, .Name y py, .Name z pz] _ _] (.Tuple [a, b, c] _ _) _ => k.ns[i]? == some x && (k.ns[j]? == some y && (k.ns[l]? == some z && (i != j && (i != l && (j != l && (k.sc.names.lookup x == some .local && (k.sc.names.lookup y == some .local && (k.sc.names.lookup z == some .local && (swapV k.sc [.Name x px, .Name y py, .Name z pz] [a, b, c] == some (some [x, y, z]) && chkEs k es [a, b, c])))))))))
    | _, _ => false)
  | .setI o i e, s => (match s with
    | .Assign [.Subscript x y _] v _ => !comp v && (!sliced y && (chkE k o x && (chkE k i y && chkE k e v)))
    | _ => false)
  | .ex e, s => (match s with
    | .Expr v _ => !comp v && chkE k e v
    | _ => false)
  | .ret e, s => (match s with
    | .Return (some v) _ => chkE k e v
    | _ => false)
  | .ite t a b, s => (match s with
    | .If c x y _ => chkC k t c && (chkSs xs hs k a x && chkSs xs hs k b y)
    | _ => false)
  | .loop t it body, s => (match s with
    | .For tg iter ys [] _ => !setLit iter && (chkI k it iter && (chkT k t tg && chkSs xs hs k body ys))
    | _ => false)
  | .whl t body, s => (match s with
    | .While c ys [] _ => chkC k t c && chkSs xs hs k body ys
    | _ => false)
  | .brk, s => (match s with
    | .Break _ => true
    | _ => false)
  | .cnt, s => (match s with
    | .Continue _ => true
    | _ => false)
  | .pss, s => (match s with
    | .Pass _ => true
    | _ => false)
  | .rse c es, s => (match s with
    | .Raise (some (.Call (.Name x _) ys [] _)) none _ => x == c && (xs.contains c && (glB k.sc c && chkEs k es ys))
    | _ => false)
  | .own i e, s => (match s with
    | .Assign [.Name x p2] v _ => k.ns[i]? == some x && (k.sc.names.lookup x == some .local && (!comp v && (noSwap k.sc (.Name x p2) v && (makesL e && chkE k e v))))
    | _ => false)
  | .appO i e, s => (match s with
    | .Expr (.Call (.Attribute (.Name x _) n ap) [z] [] p) _ => n == ("append" : Str) && (k.vis i x && ((ap.endLine == p.line) && (!starred z && chkE k e z)))
    | _ => false)
  | .setO i j e, s => (match s with
    | .Assign [.Subscript (.Name x _) y _] v _ => k.vis i x && (!comp v && (!sliced y && (chkE k j y && chkE k e v)))
    | _ => false)
  | .relO _, _ => false
  | .tri body cs nm suite, s => (match s with
    | .Try ys [.ExceptHandler (some (.Name x _)) none (b0 :: us) _] [] [] _ => nm.isNone && (cs == [x] && (hs.contains x && (glB k.sc x && (chkSs xs hs k body ys && chkSu k none suite (b0 :: us)))))
    | .Try ys [.ExceptHandler (some (.Name x _)) (some n) (b0 :: us) _] [] [] _ => (match nm with
      | some i => cs == [x] && (hs.contains x && (glB k.sc x && (k.ns[i]? == some n && (k.sc.names.lookup n == some .local && (chkSs xs hs k body ys && chkSu k (some (i, n)) suite (b0 :: us))))))
      | none => false)
    | _ => false)
def chkSs (xs hs : List Str) (k : Ck) : LSs → List Stmt → Bool
  | .nil, ys => (match ys with
    | [] => true
    | _ => false)
  | .cons s ss, ys => if isRel s = true then chkSs xs hs k ss ys else (match ys with
    | y :: ys => chkS xs hs k s y && chkSs xs hs k ss ys
    | _ => false)
end
mutual
theorem sndS {xs hs : List Str} {N : Cn} {cf : CF} {F0 H0 : Hp} {rho0 : List Addr} : ∀ (ls : LS) {k : Ck} {X : Cx} {W : WX} (s : Stmt), SXk xs hs N cf k X W → chkS xs hs k ls s = true → PS X s (rdS N cf X.K X.w X.mg F0 H0 rho0 W ls)
  | .asg t e, k, X, W, s, o, h => by
    unfold chkS at h
    split at h
    · rcases Bool.or_eq_true_iff.mp h with h | h
      · obtain ⟨h1, h2⟩ := ba h
        obtain ⟨h3, h4⟩ := ba h2
        obtain ⟨h5, h6⟩ := ba h4
        obtain ⟨h7, h8⟩ := ba h6
        exact s_asg (by simpa using h1) (by simpa using h3) h5 o.ok (sndE e _ o.ok h8) (g_all o.ok t _ h7)
      · unfold chkLc at h
        split at h
        · obtain ⟨h1, h2⟩ := ba h
          obtain ⟨h3, h4⟩ := ba h2
          obtain ⟨h5, h6⟩ := ba h4
          obtain ⟨h7, h8⟩ := ba h6
          obtain ⟨h9, ha⟩ := ba h8
          unfold chkE at ha
          split at ha
          · rename_i heq
            cases heq
            obtain ⟨i1, i2⟩ := ba ha
            obtain ⟨i3, i4⟩ := ba i2
            obtain ⟨i5, i6⟩ := ba i4
            obtain ⟨i7, i8⟩ := ba i6
            obtain ⟨i9, j0⟩ := ba i8
            obtain ⟨j1, j2⟩ := ba j0
            exact s_lc o.ok (by simpa using h1) (by simpa using h3) (by simpa using h5) h7 (by simpa using h9) i1 (by simpa using i3) i5 (fun s H C cl fp => g_all o.ok.blk _ _ i7) (sndI _ _ _ o.ok i9) (fun s H C cl fp => sndK _ _ o.ok.blk j1) (fun s H C cl fp => sndE _ _ o.ok.blk j2)
          · cases ha
        · cases h
    · cases h
  | .par is es, k, X, W, s, o, h => by
    unfold chkS at h
    split at h
    · obtain ⟨h1, h2⟩ := ba h
      obtain ⟨h3, h4⟩ := ba h2
      obtain ⟨h5, h6⟩ := ba h4
      obtain ⟨h7, h8⟩ := ba h6
      obtain ⟨h9, ha⟩ := ba h8
      obtain ⟨hb, hc⟩ := ba ha
      exact s_par2 o.ok (by simpa using h1) (by simpa using h3) (by simpa using h5) (by simpa using h7) (by simpa using h9) (by simpa using hb) (sndEs es _ o.ok hc)
    · obtain ⟨h1, h2⟩ := ba h
      obtain ⟨h3, h4⟩ := ba h2
      obtain ⟨h5, h6⟩ := ba h4
      obtain ⟨h7, h8⟩ := ba h6
      obtain ⟨h9, ha⟩ := ba h8
      obtain ⟨hb, hc⟩ := ba ha
      obtain ⟨hd, he⟩ := ba hc
      obtain ⟨hf, hg⟩ := ba he
      obtain ⟨hh, hi⟩ := ba hg
      obtain ⟨hj, hk⟩ := ba hi
      exact s_par3 o.ok (by simpa using h1) (by simpa using h3) (by simpa using h5) (by simpa using h7) (by simpa using h9) (by simpa using hb) (by simpa using hd) (by simpa using hf) (by simpa using hh) (by simpa using hj) (sndEs es _ o.ok hk)
    · cases h
  | .setI a i e, k, X, W, s, o, h => by
    unfold chkS at h
    split at h
    · obtain ⟨h1, h2⟩ := ba h
      obtain ⟨h3, h4⟩ := ba h2
      obtain ⟨h5, h6⟩ := ba h4
      obtain ⟨h7, h8⟩ := ba h6
      exact s_setI (by simpa using h1) (by simpa using h3) (sndE a _ o.ok h5) (sndE i _ o.ok h7) (sndE e _ o.ok h8)
    · cases h
  | .ex e, k, X, W, s, o, h => by
    unfold chkS at h
    split at h
    · obtain ⟨h1, h2⟩ := ba h
      exact s_ex (by simpa using h1) (sndE e _ o.ok h2)
    · cases h
  | .ret e, k, X, W, s, o, h => by
    unfold chkS at h
    split at h
    · exact s_ret (sndE e _ o.ok h)
    · cases h
  | .ite t a b, k, X, W, s, o, h => by
    unfold chkS at h
    split at h
    · obtain ⟨h1, h2⟩ := ba h
      obtain ⟨h3, h4⟩ := ba h2
      exact s_ite (sndC t _ o.ok h1).pt (sndSs a _ o h3) (sndSs b _ o h4)
    · cases h
  | .loop t it body, k, X, W, s, o, h => by
    unfold chkS at h
    split at h
    · obtain ⟨h1, h2⟩ := ba h
      obtain ⟨h3, h4⟩ := ba h2
      obtain ⟨h5, h6⟩ := ba h4
      exact s_loop o.ok o.hp (by simpa using h1) (sndI it _ _ o.ok h3) (g_all o.ok t _ h5) (sndSs body _ o h6)
    · cases h
  | .whl t body, k, X, W, s, o, h => by
    unfold chkS at h
    split at h
    · obtain ⟨h1, h2⟩ := ba h
      exact s_whl o.hp (sndC t _ o.ok h1).pt (sndSs body _ o h2)
    · cases h
  | .brk, k, X, W, s, o, h => by
    unfold chkS at h
    split at h
    · exact s_brk
    · cases h
  | .cnt, k, X, W, s, o, h => by
    unfold chkS at h
    split at h
    · exact s_cnt
    · cases h
  | .pss, k, X, W, s, o, h => by
    unfold chkS at h
    split at h
    · exact s_pss
    · cases h
  | .rse c es, k, X, W, s, o, h => by
    unfold chkS at h
    split at h
    · obtain ⟨h1, h2⟩ := ba h
      obtain ⟨h3, h4⟩ := ba h2
      obtain ⟨h5, h6⟩ := ba h4
      rw [eq_of_beq h1]
      exact s_rse o (by simpa using h3) h5 h6
    · cases h
  | .own i e, k, X, W, s, o, h => by
    unfold chkS at h
    split at h
    · obtain ⟨h1, h2⟩ := ba h
      obtain ⟨h3, h4⟩ := ba h2
      obtain ⟨h5, h6⟩ := ba h4
      obtain ⟨h7, h8⟩ := ba h6
      obtain ⟨h9, ha⟩ := ba h8
      refine s_own o.ok (by simpa using h1) (by simpa using h3) (by simpa using h5) h7 ?_
      cases e with
      | op b l r =>
        unfold chkE at ha
        split at ha
        · obtain ⟨i1, i2⟩ := ba ha
          obtain ⟨i3, i4⟩ := ba i2
          exact p_op i1 (sndB_of o.ok i3 (sndE l _ o.ok i3)) (sndB_of o.ok i4 (sndE r _ o.ok i4))
        · cases ha
      | m1 m l r =>
        cases m with
        | split =>
          unfold chkE at ha
          split at ha
          · obtain ⟨i1, i2⟩ := ba ha
            obtain ⟨i3, i4⟩ := ba i2
            obtain ⟨i5, i6⟩ := ba i4
            obtain ⟨i7, i8⟩ := ba i6
            obtain ⟨i9, j0⟩ := ba i8
            exact p_split o.ok (eq_of_beq i1) i3 (by simpa using i5) (by simpa using i7) (sndE l _ o.ok i9) (sndB_of o.ok j0 (sndE r _ o.ok j0))
          · cases ha
        | _ => cases h9
      | _ => cases h9
    · cases h
  | .appO i e, k, X, W, s, o, h => by
    unfold chkS at h
    split at h
    · obtain ⟨h1, h2⟩ := ba h
      obtain ⟨h3, h4⟩ := ba h2
      obtain ⟨h5, h6⟩ := ba h4
      obtain ⟨h7, h8⟩ := ba h6
      rw [eq_of_beq h1]
      exact s_appO o.ok h3 h5 (by simpa using h7) (sndE e _ o.ok h8)
    · cases h
  | .setO i j e, k, X, W, s, o, h => by
    unfold chkS at h
    split at h
    · obtain ⟨h1, h2⟩ := ba h
      obtain ⟨h3, h4⟩ := ba h2
      obtain ⟨h5, h6⟩ := ba h4
      obtain ⟨h7, h8⟩ := ba h6
      exact s_setO o.ok h1 (by simpa using h3) (by simpa using h5) (sndE j _ o.ok h7) (sndE e _ o.ok h8)
    · cases h
  | .relO i, k, X, W, s, o, h => by
    unfold chkS at h
    cases h
  | .tri body cs nm suite, k, X, W, s, o, h => by
    unfold chkS at h
    split at h
    · obtain ⟨h1, h2⟩ := ba h
      obtain ⟨h3, h4⟩ := ba h2
      obtain ⟨h5, h6⟩ := ba h4
      obtain ⟨h7, h8⟩ := ba h6
      obtain ⟨h9, ha⟩ := ba h8
      rw [eq_of_beq h3]
      cases nm with
      | some i => cases h1
      | none => exact s_try o (by simpa using h5) h7 (fun W' pn xe tk hp => sndSs body _ (o.tr tk hp) h9) ha
    · split at h
      · obtain ⟨h1, h2⟩ := ba h
        obtain ⟨h3, h4⟩ := ba h2
        obtain ⟨h5, h6⟩ := ba h4
        obtain ⟨h7, h8⟩ := ba h6
        obtain ⟨h9, ha⟩ := ba h8
        obtain ⟨hb, hc⟩ := ba ha
        rw [eq_of_beq h1]
        exact s_tryAs o (by simpa using h3) h5 (by simpa using h7) (by simpa using h9) (fun W' pn xe tk hp => sndSs body _ (o.tr tk hp) hb) hc
      · cases h
    · cases h
theorem sndSs {xs hs : List Str} {N : Cn} {cf : CF} {F0 H0 : Hp} {rho0 : List Addr} : ∀ (ls : LSs) {k : Ck} {X : Cx} {W : WX} (s : List Stmt), SXk xs hs N cf k X W → chkSs xs hs k ls s = true → PSs X s (rdSs N cf X.K X.w X.mg F0 H0 rho0 W ls)
  | .nil, k, X, W, s, o, h => by
    unfold chkSs at h
    split at h
    · exact ss_nil
    · cases h
  | .cons l ls, k, X, W, s, o, h => by
    unfold chkSs at h
    split at h
    · rename_i hr
      cases l with
      | relO i => exact ss_rel (sndSs ls _ o h)
      | _ => cases hr
    · split at h
      · obtain ⟨h1, h2⟩ := ba h
        exact ss_cons (sndS l _ o h1) (sndSs ls _ o h2)
      · cases h
end
end Far

set_option Elab.async false
set_option linter.all false
set_option maxRecDepth 100000
set_option maxHeartbeats 4000000
/-! All functions of a table; the head's Hook. -/
namespace Far
open PySem PySem.Spec PyProof.Rows L2

def fnK (F : LFun) (sc : Scope) : Ck := ⟨F.names, sc, fun _ => true⟩
def fnB (F : LFun) (sc : Scope) : Bool := (sc.kind == .function) && (!sc.isCoroutine && (!sc.isGenerator && (decide F.names.Nodup && ((F.names.take F.params.length == F.params) && ((F.params.all fun x => sc.names.lookup x == some .local || sc.names.lookup x == some .cell) && sc.names.all fun y => y.2 != .free)))))
theorem fnB_ok {F : LFun} {sc : Scope} (h : fnB F sc = true) : FnScope F.names F.params sc := by
  obtain ⟨h1, h2⟩ := ba h
  obtain ⟨h3, h4⟩ := ba h2
  obtain ⟨h5, h6⟩ := ba h4
  obtain ⟨h7, h8⟩ := ba h6
  obtain ⟨h9, ha⟩ := ba h8
  obtain ⟨hb, hc⟩ := ba ha
  refine ⟨by simpa using h1, by simpa using h3, by simpa using h5, of_decide_eq_true h7, by simpa using h9, fun x hx => ?_, fun y hy => ?_⟩
  · have := List.all_eq_true.mp hb x hx
    simpa using this
  · have := List.all_eq_true.mp hc y hy
    simpa using this
/-- a def of the text is this function -/
def FnF (xs hs : List Str) (K : PySem.W.Frag) (mg : Str → Option Value) (f : Str) (F : LFun) : Prop := ∃ (a : Addr) (fd : FuncData) (x qual : Str) (params : Arguments) (body : List Stmt) (scope : Scope) (kws : List (Str × V)),
  mg f = some (.ref a) ∧ FunD K x qual params body scope [] kws a fd ∧ fnB F scope = true ∧ chkSs xs hs (fnK F scope) F.body body = true ∧ Binds K fd F.params []
structure Glb (xs hs : List Str) (N : Cn) (T : Str → Option LFun) (P : Program) (w : World) (K : PySem.W.Frag) (mg : Str → Option Value) (base : Heap) : Prop where
  con : ∀ x u, N.g x = some u → ∃ v z, mg x = some z ∧ RelV v z ∧ CV K w (fun _ => none) [] u v
  free : ∀ x ∈ bltNames, mg x = none
  rse : ∀ c ∈ xs, RsC0 N P w K mg base c
  han : ∀ c ∈ hs, ∃ v, mg c = some v
  sub : ∀ e c b, N.sub e c = some b → ∃ ve vc, mg e = some ve ∧ mg c = some vc ∧ PySem.W.exmOne K ve vc = some b
  fns : ∀ f F, T f = some F → FnF xs hs K mg f F
  has : ∀ f, N.has f = true → ∃ F, T f = some F
  xfo : ∀ c f, N.fld c f = true → ∃ C, mg c = some (.ref C) ∧ XfC K C ∧ PySem.W.findIn K (.ref C) f = some none
section
variable {xs hs : List Str} {N : Cn} {T : Str → Option LFun} {P : Program} {w : World} {K : PySem.W.Frag} {mg : Str → Option Value} {base : Heap}
theorem start_ok {F H : Hp} {rho : List Addr} {us : List U} {vs : List V} (c : CVs K w F rho us vs) (ns : List Str) : SlotsOk K w F H rho (startU ns.length us) (start ns vs) ∧ ∀ (i : Nat) (ws : List U), (startU ns.length us)[i]? ≠ some (.own ws) := by
  have hl := c.length
  have no : ∀ (i : Nat) (ws : List U), (startU ns.length us)[i]? ≠ some (.own ws) := fun i ws e => by
    have m := List.mem_of_getElem? e
    unfold startU at m
    rcases List.mem_append.mp m with m | m
    · obtain ⟨u, _, z⟩ := List.mem_map.mp m
      cases z
    · cases (List.mem_replicate.mp m).2
  refine ⟨⟨?_, fun i s e => ?_, fun i j us' ws' p h1 => absurd h1 (no i us')⟩, no⟩
  · unfold startU L2.start
    simp [hl]
  · unfold startU at e
    unfold L2.start
    by_cases hi : i < us.length
    · rw [List.getElem?_append_left (by simpa using hi), List.getElem?_map] at e
      cases eu : us[i]? with
      | none => rw [eu] at e; cases e
      | some u =>
        rw [eu] at e
        cases e
        obtain ⟨v, e1, e2⟩ := c.get eu
        exact ⟨some v, by rw [List.getElem?_append_left (by simp; omega), List.getElem?_map, e1]; rfl, v, rfl, e2⟩
    · rw [List.getElem?_append_right (by simpa using hi)] at e
      have hs : s = .no := (List.mem_replicate.mp (List.mem_of_getElem? e)).2
      subst hs
      have hlt : i - us.length < ns.length - us.length := by
        have := (List.getElem?_eq_some_iff.mp e).1
        simpa using this
      refine ⟨none, ?_, trivial⟩
      rw [List.getElem?_append_right (by simp; omega)]
      simp only [List.length_map]
      rw [List.getElem?_replicate, if_pos (by omega)]
/-- calls at most n deep keep the evaluator's word -/
def CallsN (N : Cn) (T : Str → Option LFun) (P : Program) (w : World) (K : PySem.W.Frag) (mg : Str → Option Value) (base : Heap) (n : Nat) : Prop := ∀ f : Str, N.has f = true → ∃ a fd ps, mg f = some (.ref a) ∧ PySem.W.keepIn K (.ref a) = true ∧ FnOk P w K mg base (L2.CX P w) (n + 3) a fd ps (spOf K w mg (callN N T n) f ps) ∧ L2.Binds K fd ps [] ∧
    ∀ us S, callN N T n f us S ≠ .bad → us.length = ps.length
theorem callN_eq {f : Str} {F : LFun} {n : Nat} {us : List U} {S : Sto} (hF : T f = some F) : callN N T (n + 1) f us S = if us.length = F.params.length then endU (evSs N (callN N T n) F.body (startU F.names.length us) S) else .bad := by
  show (match T f with
    | some F => if us.length = F.params.length then endU (evSs N (callN N T n) F.body (startU F.names.length us) S) else .bad
    | none => .bad) = _
  rw [hF]
theorem room65 {n : Nat} {A : Around} (r : Room n A) : A.units + 65 < cLine := by
  have := r.un
  omega
theorem call_step (G : Glb xs hs N T P w K mg base) {n : Nat} (ih : CallsN N T P w K mg base n) {f : Str} {F : LFun} (hF : T f = some F) {a : Addr} {fd : FuncData} {x qual : Str} {params : Arguments} {body : List Stmt} {scope : Scope} {kws : List (Str × V)} (FD : FunD K x qual params body scope [] kws a fd)
    (hB : fnB F scope = true) (hC : chkSs xs hs (fnK F scope) F.body body = true) : FnOk P w K mg base (L2.CX P w) (n + 1 + 3) a fd F.params (spOf K w mg (callN N T (n + 1)) f F.params) := by
  refine FD.ok (k := n + 3) (fnB_ok hB) (fun vs H Q E ⟨_, _, _, _, _, _, hl, _⟩ => hl) (fun cdv A outer s H vs Q E hr hsp => ?_)
  obtain ⟨F0, rho0, S, us, st, cs, hl, post⟩ := hsp
  let X : Cx := cxOf (L2.CX P w) P w K mg base F.names qual scope a cdv A outer s H E
  let W : WX := fun c d _ H => E c d H
  have o : SXk xs hs N (callN N T n) (fnK F scope) X W := {
    ok := ⟨rfl, rfl, fun _ _ => rfl, (fnB_ok hB).nd, rfl, room65 hr, G.con, G.free, takes_of rfl rfl rfl rfl, ⟨n + 3, hr, ih⟩⟩
    hp := passes_of rfl
    stk := rfl
    frm := rfl
    rse := G.rse
    han := G.han
    room3 := hr.mono (by omega)
    sub := G.sub
    xfo := G.xfo }
  have main := sndSs (F0 := F0) (H0 := H) (rho0 := rho0) F.body body o hC
  refine ⟨_, main, F0, rho0, startU F.names.length us, S, ⟨st, (start_ok cs F.names).1, Grow.refl _ _ _, fun i ws p h1 _ => absurd h1 ((start_ok (H := H) cs F.names).2 i ws)⟩, ?_⟩
  rw [callN_eq hF, if_pos (by rw [cs.length, hl])] at post
  cases er : evSs N (callN N T n) F.body (startU F.names.length us) S with
  | nx σ1 S1 =>
    rw [er] at post
    exact fun F1 H1 rho1 sv1 fs1 _ _ => post _ F1 H1 rho1 fs1.gr fs1.st .non
  | rt u S1 =>
    rw [er] at post
    exact fun v F1 H1 rho1 g1 st1 c1 => post v F1 H1 rho1 g1 st1 c1
  | exc x1 σ1 S1 =>
    rw [er] at post
    exact fun c d F1 H1 rho1 sv1 fs1 _ _ xr => post c d F1 H1 rho1 fs1.gr fs1.st xr
  | bk σ1 S1 => rw [er] at post; exact post.elim
  | ct σ1 S1 => rw [er] at post; exact post.elim
  | bad => rw [er] at post; exact post.elim
theorem calls_ok (G : Glb xs hs N T P w K mg base) : ∀ n : Nat, CallsN N T P w K mg base n
  | 0, f, h => by
    obtain ⟨F, hF⟩ := G.has f h
    obtain ⟨a, fd, x, qual, params, body, scope, kws, m, FD, hB, hC, hb⟩ := G.fns f F hF
    refine ⟨a, fd, F.params, m, FD.kp, ⟨fun vs H Q E ⟨_, _, _, _, _, _, hl, _⟩ => hl, fun A outer s H args us vs Q E hr e0 hb r hsp => ?_⟩, hb, fun us S hn => absurd rfl hn⟩
    obtain ⟨F0, rho0, S, us, st, cs, hl, post⟩ := hsp
    exact post.elim
  | n + 1, f, h => by
    obtain ⟨F, hF⟩ := G.has f h
    obtain ⟨a, fd, x, qual, params, body, scope, kws, m, FD, hB, hC, hb⟩ := G.fns f F hF
    refine ⟨a, fd, F.params, m, FD.kp, call_step G (calls_ok G n) hF FD hB hC, hb, fun us S hn => ?_⟩
    by_cases z : us.length = F.params.length
    · exact z
    · refine absurd ?_ hn
      rw [callN_eq hF, if_neg z]
end

/-! ### facts of classes of errors -/
def oexB (K : PySem.W.Frag) (C : Addr) : Bool := (match K.lookup C with
  | some ⟨.type "type", _, .cls cd, sl⟩ => (match cd.mro, sl.toList with
    | .ref C' :: bm, [_, _, _, _, some (.builtin n), _] => (C' == C) && ((n == "ValueError.__new__") && (!cd.hasDel && (cd.hasDict && PySem.HandSPX.refsVE bm)))
    | _, _ => false)
  | _ => false) && (He.eqO (PySem.W.findIn K (.ref C) "__setattr__") (some (some (.builtin "object.__setattr__"))) && (decide (PySem.W.subIn K (.ref C) (.type "BaseException") = some true) && (decide (PySem.W.typeIn K (.ref C) = some (.type "type")) && PySem.W.keepIn K (.ref C))))
theorem oexB_ok {K : PySem.W.Frag} {C : Addr} (h : oexB K C = true) : OexC K C := by
  obtain ⟨h1, h2⟩ := ba h
  obtain ⟨h3, h4⟩ := ba h2
  obtain ⟨h5, h6⟩ := ba h4
  obtain ⟨h7, h8⟩ := ba h6
  refine ⟨?_, He.eqO_ok h3, of_decide_eq_true h5, of_decide_eq_true h7, h8⟩
  split at h1
  · rename_i dd cd sl ho
    split at h1
    · rename_i C' bm k0 k1 k2 k3 n k5 hm hs
      simp only [Bool.and_eq_true, beq_iff_eq, Bool.not_eq_true'] at h1
      obtain ⟨rfl, rfl, hdel, hdc, hv⟩ := h1
      obtain ⟨nm, bs, mro, ns, qn, hd, sn, sub, ab, col, del⟩ := cd
      dsimp only at hm hdel hdc
      subst hm hdel hdc
      have hsl : sl = #[k0, k1, k2, k3, some (.builtin "ValueError.__new__"), k5] := by
        obtain ⟨l⟩ := sl
        simp only at hs
        rw [hs]
      subst hsl
      exact ⟨nm, qn, ns, bs, bm, sn, sub, ab, col, dd, k0, k1, k2, k3, k5, ho, hv⟩
    · cases h1
  · cases h1
/-- ValueError.__init__; the base class's reading -/
def veB (K : PySem.W.Frag) : Bool := match PySem.W.findCls K (.type "ValueError") (.type "type") "__init__" with
  | some (.val (.builtin s)) => s == "ValueError.__init__"
  | _ => false
theorem veB_ok {K : PySem.W.Frag} (h : veB K = true) : PySem.W.findCls K (.type "ValueError") (.type "type") "__init__" = some (.val (.builtin "ValueError.__init__")) := by
  unfold veB at h
  split at h
  · rename_i s e
    rw [e, eq_of_beq h]
  · cases h
def baseB (K : PySem.W.Frag) (B : Addr) : Bool := PySem.W.readsIn K B (.type "type") && (He.eqO (PySem.W.specialIn K (.ref B) "__getattribute__") (some (some (.builtin "type.__getattribute__"))) && (match PySem.W.findCls K (.ref B) (.type "type") "__init__" with
  | some (.val (.ref a)) => a == He.ma K B "__init__"
  | _ => false))
theorem baseB_ok {K : PySem.W.Frag} {B : Addr} (h : baseB K B = true) : ClX.CRead K B (.type "type") ∧ PySem.W.findCls K (.ref B) (.type "type") "__init__" = some (.val (.ref (He.ma K B "__init__"))) := by
  obtain ⟨h1, h2⟩ := ba h
  obtain ⟨h3, h4⟩ := ba h2
  refine ⟨⟨h1, He.eqO_ok h3⟩, ?_⟩
  split at h4
  · rename_i a e
    rw [e, eq_of_beq h4]
  · cases h4

/-! ### the Hook -/
/-- what is looked at: what the module's names reach in n steps, and the row of statics -/
def frF (g : Addr → Option Obj) (n : Nat) : PySem.W.Frag := He.frG g (He.asD g n ++ [cStatics])
def obsF (n : Nat) (fa : List He.Fa) (fn : List He.DefD) (ts : List He.Tab) (ck : PySem.W.Frag → Bool) (g : Addr → Option Obj) : He.AlT × Bool := (He.obsT fa fn ts (frF g n), ck (frF g n))
def hookF (n : Nat) (fa : List He.Fa) (fn : List He.DefD) (ts : List He.Tab) (ck : PySem.W.Frag → Bool) : PySem.W.Hook where
  α := He.AlT × Bool
  obs := fun s => obsF n fa fn ts ck s.heap.get?
  val := fun w => (He.valT fn ts w, true)
  says := fun w h => ∃ K : PySem.W.Frag, K.In h ∧ He.SaysT fa fn ts w K ∧ ck K = true
  of := fun _ _ e => ⟨_, He.frG_in, congrArg Prod.fst e, congrArg Prod.snd e⟩
  keeps := fun _ _ _ ⟨K, hK, c⟩ k => ⟨K, PySem.W.Frag.In.keeps hK k, c⟩
theorem obsF_eq {n : Nat} {fa : List He.Fa} {fn : List He.DefD} {ts : List He.Tab} {ck : PySem.W.Frag → Bool} {g : Addr → Option Obj} {s : Shared} (h : ∀ a, g a = s.heap.get? a) : obsF n fa fn ts ck g = (hookF n fa fn ts ck).obs s := by
  have e : g = s.heap.get? := funext h
  rw [e] <;> rfl
end Far

set_option Elab.async false
set_option linter.all false
set_option maxRecDepth 100000
set_option maxHeartbeats 4000000
/-! The end of a law by the evaluator. -/
namespace Far
open PySem PySem.Spec PyProof.Rows L2
/-- the j-th statement of a class's body -/
def methOf (st : Stmt) (j : Nat) : Stmt := match st with
  | .ClassDef _ _ _ b _ _ _ _ _ _ _ => b.getD j (.Pass ⟨0, 0, 0, 0⟩)
  | _ => .Pass ⟨0, 0, 0, 0⟩
theorem walk_far {l : PySem.W.OpenLaw} {n k : Nat} {q : Program} {loose : List Str} {XP : (Str → Option Value) → Heap → Prop} {YP : World → Heap → Prop} {d : DefRec} {x : Str}
    (hn : l.most = some n) (hn2 : n ≤ sizeLine) (hdf : d.params.defaults = []) (hr : Room k callerA)
    (F : ∀ (w : World) (mg : Str → Option Value) (fa : Addr) (h : Heap), YP w h → h.Ns mainGlobals mg → mg d.name = some (.ref fa) →
      ∃ (K : PySem.W.Frag) (fd : FuncData) (sp : Sp), K.In h ∧ (∀ (s : Shared) (u : Value), BindsTo s fd ⟨[u], []⟩ [(x, u)]) ∧
        (∀ (H : Hp) (a : Addr) (ns : List Int), ns.length ≤ n → (∀ z ∈ ns, Builtin.Int.intBits z ≤ 1048576) → SqL K H a (ns.map V.int) → sp [.ref a] H (fun v _ => v = .bl true) fun _ _ _ => False) ∧
        ∀ base : Heap, K.In base → base.Ns mainGlobals mg → FnOk l.prog w K mg base (L2.CX l.prog w) k fa fd [x] sp) :
    PySem.W.WalkO q loose XP YP l.row.toRowW d [] (fun f vs => PySem.call f vs) := by
  refine Att.attach_callB hn hdf fun w s₀ s₁ mg mb fa o pm cd doc a vs ns G Y ho hd hcd hmg hobj hints hlen hbits hg => ?_
  obtain ⟨K, fd, sp, KX, hb, hsp, hF⟩ := F w mg fa _ Y G.T.g hmg
  refine law_call KX G.T.g G.T.b G.T.builtins G.T.nolimit hg hobj hints (Nat.le_trans hlen hn2) hr hF hb (fun H _ hS => hsp H a ns hlen hbits hS) fun H e s' z => ?_
  obtain ⟨_, _, _, _, _, _, _, _, _, _, _, _, z⟩ := z
  exact z
theorem cvs_ints {K : PySem.W.Frag} {w : World} {F : Hp} {rho : List Addr} : ∀ ns : List Int, CVs K w F rho (ns.map U.int) (ns.map V.int)
  | [] => .nil
  | n :: ns => .cons (.int n) (cvs_ints ns)
/-- the law's def at a script -/
theorem sp_start {K : PySem.W.Frag} {w : World} {mg : Str → Option Value} {cf : CF} {H : Hp} {a : Addr} {ns : List Int} {x : Str} {f : Str} (hS : SqL K H a (ns.map V.int)) (h : ∃ S', cf f [.fz (ns.map U.int)] [] = .ok (.bl true) S') :
    spOf K w mg cf f [x] [.ref a] H (fun v _ => v = .bl true) (fun _ _ _ => False) := by
  obtain ⟨S', h⟩ := h
  refine ⟨H, [], [], [.fz (ns.map U.int)], ⟨Same.refl _, rfl, List.nodup_nil, fun n b o e => by simp at e⟩, .cons (.fz hS (cvs_ints ns)) .nil, rfl, ?_⟩
  rw [h]
  intro b F' H' rho' g st c
  cases c
  rfl
/-! ### a written dict of texts -/
def kentL : List DictEntry → List (Str × V) → Bool
  | [], [] => true
  | e :: es, p :: ps => (match e.key with
    | .str x _ => (x == p.1) && (He.relB p.2 e.val && kentL es ps)
    | _ => false)
  | _, _ => false
theorem kentL_ok : ∀ {es : List DictEntry} {ps : List (Str × V)}, kentL es ps = true → KEnt es (ps.map fun p => .inr p.1) (ps.map (·.2))
  | [], [], _ => .nil
  | [], _ :: _, h => by cases h
  | _ :: _, [], h => by cases h
  | e :: es, p :: ps, h => by
    unfold kentL at h
    split at h
    · rename_i x t ek
      obtain ⟨h1, h2⟩ := ba h
      obtain ⟨h3, h4⟩ := ba h2
      rw [eq_of_beq h1] at ek
      exact .cons ek (He.relB_ok h3) (kentL_ok h4)
    · cases h
def kentB (K : PySem.W.Frag) (a : Addr) (ps : List (Str × V)) : Bool := match K.lookup a with
  | some ⟨_, _, .dict es _, _⟩ => kentL es.toList ps
  | _ => false
theorem kentB_ok {K : PySem.W.Frag} {w : World} {a : Addr} {ps : List (Str × V)} (h : kentB K a ps = true) (d : ∃ es n, KDict K w a es n) : KDc K w a (ps.map fun p => .inr p.1) (ps.map (·.2)) := by
  obtain ⟨es, n, D⟩ := d
  unfold kentB at h
  rw [D.at_] at h
  exact ⟨es, n, D, kentL_ok h⟩
/-! ### a written tuple -/
def relVs : List Value → List V → Bool
  | [], [] => true
  | v :: vs, x :: xs => He.relB x v && relVs vs xs
  | _, _ => false
theorem relVs_ok : ∀ {vs : List Value} {xs : List V}, relVs vs xs = true → Vals xs vs
  | [], [], _ => .nil
  | [], _ :: _, h => by cases h
  | _ :: _, [], h => by cases h
  | v :: vs, x :: xs, h => by
    obtain ⟨h1, h2⟩ := ba h
    exact .cons (He.relB_ok h1) (relVs_ok h2)
def tupB (K : PySem.W.Frag) (a : Addr) (xs : List V) : Bool := match K.lookup a with
  | some ⟨.type n, _, .seq its _, _⟩ => (n == "tuple") && (decide (its.size ≤ 1000) && relVs its.toList xs)
  | _ => false
theorem tupB_ok {K : PySem.W.Frag} {a : Addr} {xs : List V} (h : tupB K a xs = true) : SqT K (fun _ => none) a xs := by
  unfold tupB at h
  split at h
  · rename_i n dd its m sl e
    obtain ⟨h1, h2⟩ := ba h
    obtain ⟨h3, h4⟩ := ba h2
    refine .inr ⟨_, its, m, e, ?_, rfl, ?_, relVs_ok h4⟩
    · show Value.type n = _
      rw [eq_of_beq h1]
    · rw [sizeLine_eq]
      have := of_decide_eq_true h3
      omega
  · cases h
end Far

set_option Elab.async false
set_option linter.all false
set_option maxRecDepth 100000
set_option maxHeartbeats 4000000
/-! Plain facts of the evaluator; the bag of a law. -/
namespace Far
open PySem L2
/- simp -/
section
variable (N : Cn) (cf : CF) (σ : Slots) (S : Sto)
/-! what comes behind has a name of its own: simp opens it only when its turn has come -/
def getV (o : Option SL) (S : Sto) : R U := match o with
  | some (.val u) => .ok u S
  | _ => .bad
@[simp] theorem getV_val (u : U) : getV (some (.val u)) S = .ok u S := rfl
@[simp] theorem getV_no : getV (some .no) S = .bad := rfl
def kOp2 (o : Bop) (x y : U) (S : Sto) : R U := retP (bop o S x y) S
def kOp1 (o : Bop) (b : LE) (x : U) (S : Sto) : R U := (lookB (borOf σ b) (evE N cf σ b S) S).bind (kOp2 o x)
def kNeg (x : U) (S : Sto) : R U := match x with
  | .int i => .ok (.int (-i)) S
  | _ => .bad
def kCmp2 (o : Cop) (x y : U) (S : Sto) : R U := retB (cop o S x y) S
def kCmp1 (o : Cop) (b : LE) (x : U) (S : Sto) : R U := (lookB (borOf σ b) (evE N cf σ b S) S).bind (kCmp2 o x)
def kChn4 (o' : Cop) (y z : U) (S : Sto) : R U := retB (cop o' S y z) S
def kChn3 (o' : Cop) (c : LE) (y : U) (k : Option Bool) (S : Sto) : R U := match k with
  | some true => (evE N cf σ c S).bind (kChn4 o' y)
  | some false => .ok (.bl false) S
  | none => .bad
def kChn2 (o o' : Cop) (c : LE) (x y : U) (S : Sto) : R U := kChn3 N cf σ o' c y (cop o S x y) S
def kChn1 (o o' : Cop) (b c : LE) (x : U) (S : Sto) : R U := (evE N cf σ b S).bind (kChn2 N cf σ o o' c x)
def kNotB (k : Option Bool) (S : Sto) : R U := match k with
  | some k => .ok (.bl (!k)) S
  | none => .bad
def kNot (u : U) (S : Sto) : R U := kNotB (truth S u) S
def kAnd (b : LE) (x : U) (S : Sto) : R U := match x with
  | .bl true => evE N cf σ b S
  | .bl false => .ok (.bl false) S
  | _ => .bad
def kOr (b : LE) (x : U) (S : Sto) : R U := match x with
  | .bl true => .ok (.bl true) S
  | .bl false => evE N cf σ b S
  | _ => .bad
def kIte (a b : LE) (k : Bool) (S : Sto) : R U := if k = true then evE N cf σ a S else evE N cf σ b S
def kTup (us : List U) (S : Sto) : R U := if us.length ≤ big then .ok (.tup us) S else .bad
def kLst (us : List U) (S : Sto) : R U := if us.length ≤ big then .ok (.lst us) S else .bad
def kSto (us : List U) (S : Sto) : R U := if us.length ≤ big then .ok (.ref S.length) (S ++ [.lst us]) else .bad
def kDct (ks : List Key) (us : List U) (S : Sto) : R U := if us.length = ks.length ∧ ks.length ≤ 15 ∧ ks.Nodup then .ok (.dct ks us) S else .bad
def kSub2 (x y : U) (S : Sto) : R U := retU (item S x y) S
def kSub1 (i : LE) (x : U) (S : Sto) : R U := (evE N cf σ i S).bind (kSub2 x)
def kSlc3 (x : U) (l h : Option Int) (S : Sto) : R U := retP (cut S x l h) S
def kSlc2 (hi : LO) (x : U) (l : Option Int) (S : Sto) : R U := (evO N cf σ hi S).bind (kSlc3 x l)
def kSlc1 (lo hi : LO) (x : U) (S : Sto) : R U := (evO N cf σ lo S).bind (kSlc2 N cf σ hi x)
def kFn (f : Fn) (x : U) (S : Sto) : R U := retP (fnc f S [x]) S
def kIsi (t : Ty) (x : U) (S : Sto) : R U := retB (tyIs t x) S
def kIsiT (ts : List Ty) (x : U) (S : Sto) : R U := if ts ≠ [] ∧ ts.length ≤ 100 then retB (tyAny ts x) S else .bad
def kM2 (m : Met) (x y : U) (S : Sto) : R U := retP (met m x y) S
def kM1 (m : Met) (e : LE) (x : U) (S : Sto) : R U := if metTy m x = true then (lookB (borOf σ e) (evE N cf σ e S) S).bind (kM2 m x) else .bad
def kFs (z : Str) (S : Sto) : R U := .ok (.str z) S
def kFv (x : U) (S : Sto) : R U := retU (fmtU x) S
def kCs2 (u : U) (us : List U) (S : Sto) : R (List U) := .ok (u :: us) S
def kCs1 (es : LEs) (u : U) (S : Sto) : R (List U) := (evEs N cf σ es S).bind (kCs2 u)
def kJs (es : LEs) (acc : Str) (u : U) (S : Sto) : R Str := match u with
  | .str y => if (acc ++ y).length ≤ big then evJs N cf σ es (acc ++ y) S else .bad
  | _ => .bad
def kO (u : U) (S : Sto) : R (Option Int) := match u with
  | .int i => .ok (some i) S
  | _ => .bad
def kSeq (u : U) (S : Sto) : R (List U) := match u with
  | .tup us => .ok us S
  | .lst us => .ok us S
  | .str z => .ok (signsU z) S
  | _ => .bad
def kRng1 (u : U) (S : Sto) : R (List U) := match u with
  | .int j => if -100000000000000000 < j ∧ j < 100000 then .ok (rangeU 0 j) S else .bad
  | _ => .bad
def kRng2b (u w : U) (S : Sto) : R (List U) := match u, w with
  | .int i, .int j => if -100000000000000000 < i ∧ i < 100000000000000000 ∧ -100000000000000000 < j ∧ j < i + 100000 then .ok (rangeU i j) S else .bad
  | _, _ => .bad
def kRng2a (b : LE) (u : U) (S : Sto) : R (List U) := (evE N cf σ b S).bind (kRng2b u)
def kTAnd (b : LC) (k : Bool) (S : Sto) : R Bool := if k = true then evT N cf σ b S else .ok false S
def kTOr (b : LC) (k : Bool) (S : Sto) : R Bool := if k = true then .ok true S else evT N cf σ b S
def kTNot (k : Bool) (S : Sto) : R Bool := .ok (!k) S
def kTCmp2 (o : Cop) (x y : U) (S : Sto) : R Bool := retT (cop o S x y) S
def kTCmp1 (o : Cop) (b : LE) (x : U) (S : Sto) : R Bool := (lookB (borOf σ b) (evE N cf σ b S) S).bind (kTCmp2 o x)
def kTChn4 (o' : Cop) (y z : U) (S : Sto) : R Bool := retT (cop o' S y z) S
def kTChn3 (o' : Cop) (c : LE) (y : U) (k : Option Bool) (S : Sto) : R Bool := match k with
  | some true => (evE N cf σ c S).bind (kTChn4 o' y)
  | some false => .ok false S
  | none => .bad
def kTChn2 (o o' : Cop) (c : LE) (x y : U) (S : Sto) : R Bool := kTChn3 N cf σ o' c y (cop o S x y) S
def kTChn1 (o o' : Cop) (b c : LE) (x : U) (S : Sto) : R Bool := (evE N cf σ b S).bind (kTChn2 N cf σ o o' c x)
def kTru (u : U) (S : Sto) : R Bool := retT (truth S u) S
/- statements -/
def kAsg (t : LT) (u : U) (S : Sto) : RS := orBad (assign t u σ) S
def kPar (is : List Nat) (us : List U) (S : Sto) : RS := orBad (setVals is us σ) S
def kSet4 (o : Option Sto) : RS := match o with
  | some S => .nx σ S
  | none => .bad
def kSet3 (u x y : U) (S : Sto) : RS := kSet4 σ (stoSet S x y u)
def kSet2 (i : LE) (u x : U) (S : Sto) : RS := (evE N cf σ i S).then σ (kSet3 σ u x)
def kSet1 (o i : LE) (u : U) (S : Sto) : RS := (evE N cf σ o S).then σ (kSet2 N cf σ i u)
def kEx (u : U) (S : Sto) : RS := .nx σ S
def kRet (u : U) (S : Sto) : RS := .rt u S
def kIf (a b : LSs) (k : Bool) (S : Sto) : RS := if k = true then evSs N cf a σ S else evSs N cf b σ S
def kRse2 (c : Str) (o : Option (List (Str × U))) (S : Sto) : RS := match o with
  | some fs => .exc ⟨c, fs⟩ σ S
  | none => .bad
def kRse (c : Str) (us : List U) (S : Sto) : RS := kRse2 σ c (N.xm c us) S
/- what they are -/
@[simp] theorem kOp2_ (o : Bop) (x y : U) : kOp2 o x y S = retP (bop o S x y) S := rfl
@[simp] theorem kOp1_ (o : Bop) (b : LE) (x : U) : kOp1 N cf σ o b x S = (lookB (borOf σ b) (evE N cf σ b S) S).bind (kOp2 o x) := rfl
@[simp] theorem kNeg_ (i : Int) : kNeg (.int i) S = .ok (.int (-i)) S := rfl
@[simp] theorem kCmp2_ (o : Cop) (x y : U) : kCmp2 o x y S = retB (cop o S x y) S := rfl
@[simp] theorem kCmp1_ (o : Cop) (b : LE) (x : U) : kCmp1 N cf σ o b x S = (lookB (borOf σ b) (evE N cf σ b S) S).bind (kCmp2 o x) := rfl
@[simp] theorem kChn4_ (o' : Cop) (y z : U) : kChn4 o' y z S = retB (cop o' S y z) S := rfl
@[simp] theorem kChn3_t (o' : Cop) (c : LE) (y : U) : kChn3 N cf σ o' c y (some true) S = (evE N cf σ c S).bind (kChn4 o' y) := rfl
@[simp] theorem kChn3_f (o' : Cop) (c : LE) (y : U) : kChn3 N cf σ o' c y (some false) S = .ok (.bl false) S := rfl
@[simp] theorem kChn2_ (o o' : Cop) (c : LE) (x y : U) : kChn2 N cf σ o o' c x y S = kChn3 N cf σ o' c y (cop o S x y) S := rfl
@[simp] theorem kChn1_ (o o' : Cop) (b c : LE) (x : U) : kChn1 N cf σ o o' b c x S = (evE N cf σ b S).bind (kChn2 N cf σ o o' c x) := rfl
@[simp] theorem kNotB_ (k : Bool) : kNotB (some k) S = .ok (.bl (!k)) S := rfl
@[simp] theorem kNot_ (u : U) : kNot u S = kNotB (truth S u) S := rfl
@[simp] theorem kAnd_t (b : LE) : kAnd N cf σ b (.bl true) S = evE N cf σ b S := rfl
@[simp] theorem kAnd_f (b : LE) : kAnd N cf σ b (.bl false) S = .ok (.bl false) S := rfl
@[simp] theorem kOr_t (b : LE) : kOr N cf σ b (.bl true) S = .ok (.bl true) S := rfl
@[simp] theorem kOr_f (b : LE) : kOr N cf σ b (.bl false) S = evE N cf σ b S := rfl
@[simp] theorem kIte_t (a b : LE) : kIte N cf σ a b true S = evE N cf σ a S := rfl
@[simp] theorem kIte_f (a b : LE) : kIte N cf σ a b false S = evE N cf σ b S := rfl
@[simp] theorem kTup_ (us : List U) : kTup us S = if us.length ≤ big then .ok (.tup us) S else .bad := rfl
@[simp] theorem kLst_ (us : List U) : kLst us S = if us.length ≤ big then .ok (.lst us) S else .bad := rfl
@[simp] theorem kSto_ (us : List U) : kSto us S = if us.length ≤ big then .ok (.ref S.length) (S ++ [.lst us]) else .bad := rfl
@[simp] theorem kDct_ (ks : List Key) (us : List U) : kDct ks us S = if us.length = ks.length ∧ ks.length ≤ 15 ∧ ks.Nodup then .ok (.dct ks us) S else .bad := rfl
@[simp] theorem kSub2_ (x y : U) : kSub2 x y S = retU (item S x y) S := rfl
@[simp] theorem kSub1_ (i : LE) (x : U) : kSub1 N cf σ i x S = (evE N cf σ i S).bind (kSub2 x) := rfl
@[simp] theorem kSlc3_ (x : U) (l h : Option Int) : kSlc3 x l h S = retP (cut S x l h) S := rfl
@[simp] theorem kSlc2_ (hi : LO) (x : U) (l : Option Int) : kSlc2 N cf σ hi x l S = (evO N cf σ hi S).bind (kSlc3 x l) := rfl
@[simp] theorem kSlc1_ (lo hi : LO) (x : U) : kSlc1 N cf σ lo hi x S = (evO N cf σ lo S).bind (kSlc2 N cf σ hi x) := rfl
@[simp] theorem kFn_ (f : Fn) (x : U) : kFn f x S = retP (fnc f S [x]) S := rfl
@[simp] theorem kIsi_ (t : Ty) (x : U) : kIsi t x S = retB (tyIs t x) S := rfl
@[simp] theorem kIsiT_ (ts : List Ty) (x : U) : kIsiT ts x S = if ts ≠ [] ∧ ts.length ≤ 100 then retB (tyAny ts x) S else .bad := rfl
@[simp] theorem kM2_ (m : Met) (x y : U) : kM2 m x y S = retP (met m x y) S := rfl
@[simp] theorem kM1_ (m : Met) (e : LE) (x : U) : kM1 N cf σ m e x S = if metTy m x = true then (lookB (borOf σ e) (evE N cf σ e S) S).bind (kM2 m x) else .bad := rfl
@[simp] theorem kFs_ (z : Str) : kFs z S = .ok (.str z) S := rfl
@[simp] theorem kFv_ (x : U) : kFv x S = retU (fmtU x) S := rfl
@[simp] theorem kCs2_ (u : U) (us : List U) : kCs2 u us S = .ok (u :: us) S := rfl
@[simp] theorem kCs1_ (es : LEs) (u : U) : kCs1 N cf σ es u S = (evEs N cf σ es S).bind (kCs2 u) := rfl
@[simp] theorem kJs_ (es : LEs) (acc y : Str) : kJs N cf σ es acc (.str y) S = if (acc ++ y).length ≤ big then evJs N cf σ es (acc ++ y) S else .bad := rfl
@[simp] theorem kO_ (i : Int) : kO (.int i) S = .ok (some i) S := rfl
@[simp] theorem kSeq_t (us : List U) : kSeq (.tup us) S = .ok us S := rfl
@[simp] theorem kSeq_l (us : List U) : kSeq (.lst us) S = .ok us S := rfl
@[simp] theorem kSeq_s (z : Str) : kSeq (.str z) S = .ok (signsU z) S := rfl
@[simp] theorem kRng1_ (j : Int) : kRng1 (.int j) S = if -100000000000000000 < j ∧ j < 100000 then .ok (rangeU 0 j) S else .bad := rfl
@[simp] theorem kRng2b_ (i j : Int) : kRng2b (.int i) (.int j) S = if -100000000000000000 < i ∧ i < 100000000000000000 ∧ -100000000000000000 < j ∧ j < i + 100000 then .ok (rangeU i j) S else .bad := rfl
@[simp] theorem kRng2a_ (b : LE) (u : U) : kRng2a N cf σ b u S = (evE N cf σ b S).bind (kRng2b u) := rfl
@[simp] theorem kTAnd_t (b : LC) : kTAnd N cf σ b true S = evT N cf σ b S := rfl
@[simp] theorem kTAnd_f (b : LC) : kTAnd N cf σ b false S = .ok false S := rfl
@[simp] theorem kTOr_t (b : LC) : kTOr N cf σ b true S = .ok true S := rfl
@[simp] theorem kTOr_f (b : LC) : kTOr N cf σ b false S = evT N cf σ b S := rfl
@[simp] theorem kTNot_ (k : Bool) : kTNot k S = .ok (!k) S := rfl
@[simp] theorem kTCmp2_ (o : Cop) (x y : U) : kTCmp2 o x y S = retT (cop o S x y) S := rfl
@[simp] theorem kTCmp1_ (o : Cop) (b : LE) (x : U) : kTCmp1 N cf σ o b x S = (lookB (borOf σ b) (evE N cf σ b S) S).bind (kTCmp2 o x) := rfl
@[simp] theorem kTChn4_ (o' : Cop) (y z : U) : kTChn4 o' y z S = retT (cop o' S y z) S := rfl
@[simp] theorem kTChn3_t (o' : Cop) (c : LE) (y : U) : kTChn3 N cf σ o' c y (some true) S = (evE N cf σ c S).bind (kTChn4 o' y) := rfl
@[simp] theorem kTChn3_f (o' : Cop) (c : LE) (y : U) : kTChn3 N cf σ o' c y (some false) S = .ok false S := rfl
@[simp] theorem kTChn2_ (o o' : Cop) (c : LE) (x y : U) : kTChn2 N cf σ o o' c x y S = kTChn3 N cf σ o' c y (cop o S x y) S := rfl
@[simp] theorem kTChn1_ (o o' : Cop) (b c : LE) (x : U) : kTChn1 N cf σ o o' b c x S = (evE N cf σ b S).bind (kTChn2 N cf σ o o' c x) := rfl
@[simp] theorem kTru_ (u : U) : kTru u S = retT (truth S u) S := rfl
@[simp] theorem kAsg_ (t : LT) (u : U) : kAsg σ t u S = orBad (assign t u σ) S := rfl
@[simp] theorem kPar_ (is : List Nat) (us : List U) : kPar σ is us S = orBad (setVals is us σ) S := rfl
@[simp] theorem kSet4_ : kSet4 σ (some S) = .nx σ S := rfl
@[simp] theorem kSet3_ (u x y : U) : kSet3 σ u x y S = kSet4 σ (stoSet S x y u) := rfl
@[simp] theorem kSet2_ (i : LE) (u x : U) : kSet2 N cf σ i u x S = (evE N cf σ i S).then σ (kSet3 σ u x) := rfl
@[simp] theorem kSet1_ (o i : LE) (u : U) : kSet1 N cf σ o i u S = (evE N cf σ o S).then σ (kSet2 N cf σ i u) := rfl
@[simp] theorem kEx_ (u : U) : kEx σ u S = .nx σ S := rfl
@[simp] theorem kRet_ (u : U) : kRet u S = .rt u S := rfl
@[simp] theorem kIf_t (a b : LSs) : kIf N cf σ a b true S = evSs N cf a σ S := rfl
@[simp] theorem kIf_f (a b : LSs) : kIf N cf σ a b false S = evSs N cf b σ S := rfl
@[simp] theorem kRse2_ (c : Str) (fs : List (Str × U)) : kRse2 σ c (some fs) S = .exc ⟨c, fs⟩ σ S := rfl
@[simp] theorem kRse_ (c : Str) (us : List U) : kRse N σ c us S = kRse2 σ c (N.xm c us) S := rfl
/- the evaluator -/
@[simp] theorem evE_bad : evE N cf σ (.bad) S = .bad := by rw [evE]
@[simp] theorem evE_c (u : U) : evE N cf σ (.c u) S = .ok u S := by rw [evE]
@[simp] theorem evE_v (i : Nat) : evE N cf σ (.v i) S = getV σ[i]? S := by rw [evE]; rfl
@[simp] theorem evE_b (i : Nat) : evE N cf σ (.b i) S = .bad := by rw [evE]
@[simp] theorem evE_xf (i : Nat) (f : Str) : evE N cf σ (.xf i f) S = .bad := by rw [evE]
@[simp] theorem evE_g (x : Str) : evE N cf σ (.g x) S = retU (N.g x) S := by rw [evE]
@[simp] theorem evE_op (o : Bop) (a b : LE) : evE N cf σ (.op o a b) S = (lookB (borOf σ a) (evE N cf σ a S) S).bind (kOp1 N cf σ o b) := by rw [evE]; rfl
@[simp] theorem evE_neg (a : LE) : evE N cf σ (.neg a) S = (evE N cf σ a S).bind kNeg := by rw [evE]; rfl
@[simp] theorem evE_cmp (o : Cop) (a b : LE) : evE N cf σ (.cmp o a b) S = (lookB (borOf σ a) (evE N cf σ a S) S).bind (kCmp1 N cf σ o b) := by rw [evE]; rfl
@[simp] theorem evE_chn (o o' : Cop) (a b c : LE) : evE N cf σ (.chn o o' a b c) S = (evE N cf σ a S).bind (kChn1 N cf σ o o' b c) := by rw [evE]; rfl
@[simp] theorem evE_not (a : LE) : evE N cf σ (.not a) S = (evE N cf σ a S).bind kNot := by rw [evE]; rfl
@[simp] theorem evE_and (a b : LE) : evE N cf σ (.and a b) S = (evE N cf σ a S).bind (kAnd N cf σ b) := by rw [evE]; rfl
@[simp] theorem evE_or (a b : LE) : evE N cf σ (.or a b) S = (evE N cf σ a S).bind (kOr N cf σ b) := by rw [evE]; rfl
@[simp] theorem evE_ite (t : LC) (a b : LE) : evE N cf σ (.ite t a b) S = (evT N cf σ t S).bind (kIte N cf σ a b) := by rw [evE]; rfl
@[simp] theorem evE_tup (es : LEs) : evE N cf σ (.tup es) S = (evEs N cf σ es S).bind kTup := by rw [evE]; rfl
@[simp] theorem evE_lst (es : LEs) : evE N cf σ (.lst es) S = (evEs N cf σ es S).bind kLst := by rw [evE]; rfl
@[simp] theorem evE_sto (es : LEs) : evE N cf σ (.sto es) S = (evEs N cf σ es S).bind kSto := by rw [evE]; rfl
@[simp] theorem evE_dct (ks : List Key) (es : LEs) : evE N cf σ (.dct ks es) S = (evEs N cf σ es S).bind (kDct ks) := by rw [evE]; rfl
@[simp] theorem evE_sub (a i : LE) : evE N cf σ (.sub a i) S = (lookB (borOf σ a) (evE N cf σ a S) S).bind (kSub1 N cf σ i) := by rw [evE]; rfl
@[simp] theorem evE_slc (a : LE) (lo hi : LO) : evE N cf σ (.slc a lo hi) S = (lookB (borOf σ a) (evE N cf σ a S) S).bind (kSlc1 N cf σ lo hi) := by rw [evE]; rfl
@[simp] theorem evE_fn (f : Fn) (e : LE) : evE N cf σ (.fn f e) S = (lookB (borOf σ e) (evE N cf σ e S) S).bind (kFn f) := by rw [evE]; rfl
@[simp] theorem evE_isi (a : LE) (t : Ty) : evE N cf σ (.isi a t) S = (evE N cf σ a S).bind (kIsi t) := by rw [evE]; rfl
@[simp] theorem evE_isiT (a : LE) (ts : List Ty) : evE N cf σ (.isiT a ts) S = (evE N cf σ a S).bind (kIsiT ts) := by rw [evE]; rfl
@[simp] theorem evE_call (f : Str) (es : LEs) : evE N cf σ (.call f es) S = if N.has f = true then (evEs N cf σ es S).bind (cf f) else .bad := by rw [evE]
@[simp] theorem evE_m1 (m : Met) (o e : LE) : evE N cf σ (.m1 m o e) S = (evE N cf σ o S).bind (kM1 N cf σ m e) := by rw [evE]; rfl
@[simp] theorem evE_fs (es : LEs) : evE N cf σ (.fs es) S = (evJs N cf σ es Str.empty S).bind kFs := by rw [evE]; rfl
@[simp] theorem evE_fv (e : LE) : evE N cf σ (.fv e) S = (evE N cf σ e S).bind kFv := by rw [evE]; rfl
@[simp] theorem evEs_nil : evEs N cf σ .nil S = .ok [] S := by rw [evEs]
@[simp] theorem evEs_cons (e : LE) (es : LEs) : evEs N cf σ (.cons e es) S = (evE N cf σ e S).bind (kCs1 N cf σ es) := by rw [evEs]; rfl
@[simp] theorem evO_non : evO N cf σ .non S = .ok none S := by rw [evO]
@[simp] theorem evO_som (e : LE) : evO N cf σ (.som e) S = (evE N cf σ e S).bind kO := by rw [evO]; rfl
@[simp] theorem evC_non : evC N cf σ .non S = .ok true S := by rw [evC]
@[simp] theorem evC_som (e : LC) : evC N cf σ (.som e) S = evT N cf σ e S := by rw [evC]
@[simp] theorem evI_seq (e : LE) : evI N cf σ (.seq e) S = (evE N cf σ e S).bind kSeq := by rw [evI]; rfl
@[simp] theorem evI_rng1 (b : LE) : evI N cf σ (.rng1 b) S = (evE N cf σ b S).bind kRng1 := by rw [evI]; rfl
@[simp] theorem evI_rng2 (a b : LE) : evI N cf σ (.rng2 a b) S = (evE N cf σ a S).bind (kRng2a N cf σ b) := by rw [evI]; rfl
@[simp] theorem evT_and (a b : LC) : evT N cf σ (.and a b) S = (evT N cf σ a S).bind (kTAnd N cf σ b) := by rw [evT]; rfl
@[simp] theorem evT_or (a b : LC) : evT N cf σ (.or a b) S = (evT N cf σ a S).bind (kTOr N cf σ b) := by rw [evT]; rfl
@[simp] theorem evT_not (a : LC) : evT N cf σ (.not a) S = (evT N cf σ a S).bind kTNot := by rw [evT]; rfl
@[simp] theorem evT_cmp (o : Cop) (a b : LE) : evT N cf σ (.cmp o a b) S = (lookB (borOf σ a) (evE N cf σ a S) S).bind (kTCmp1 N cf σ o b) := by rw [evT]; rfl
@[simp] theorem evT_chn (o o' : Cop) (a b c : LE) : evT N cf σ (.chn o o' a b c) S = (evE N cf σ a S).bind (kTChn1 N cf σ o o' b c) := by rw [evT]; rfl
@[simp] theorem evT_e (e : LE) : evT N cf σ (.e e) S = (evE N cf σ e S).bind kTru := by
  rw [evT]
  cases evE N cf σ e S with
  | ok u S1 =>
    show _ = retT (truth S1 u) S1
    simp only [R.bind_ok]
    cases truth S1 u <;> rfl
  | exc x S1 => rfl
  | bad => rfl
@[simp] theorem evS_asg (t : LT) (e : LE) : evS N cf (.asg t e) σ S = (evE N cf σ e S).then σ (kAsg σ t) := by rw [evS]; rfl
@[simp] theorem evS_par (is : List Nat) (es : LEs) : evS N cf (.par is es) σ S = (evEs N cf σ es S).then σ (kPar σ is) := by rw [evS]; rfl
@[simp] theorem evS_setI (o i e : LE) : evS N cf (.setI o i e) σ S = (evE N cf σ e S).then σ (kSet1 N cf σ o i) := by rw [evS]; rfl
@[simp] theorem evS_ex (e : LE) : evS N cf (.ex e) σ S = (evE N cf σ e S).then σ (kEx σ) := by rw [evS]; rfl
@[simp] theorem evS_ret (e : LE) : evS N cf (.ret e) σ S = (evE N cf σ e S).then σ kRet := by rw [evS]; rfl
@[simp] theorem evS_ite (t : LC) (a b : LSs) : evS N cf (.ite t a b) σ S = (evT N cf σ t S).then σ (kIf N cf σ a b) := by rw [evS]; rfl
@[simp] theorem evS_brk : evS N cf .brk σ S = .bk σ S := by rw [evS]
@[simp] theorem evS_cnt : evS N cf .cnt σ S = .ct σ S := by rw [evS]
@[simp] theorem evS_pss : evS N cf .pss σ S = .nx σ S := by rw [evS]
@[simp] theorem evS_rse (c : Str) (es : LEs) : evS N cf (.rse c es) σ S = (evEs N cf σ es S).then σ (kRse N σ c) := by rw [evS]; rfl
@[simp] theorem evSs_nil : evSs N cf .nil σ S = .nx σ S := by rw [evSs]
@[simp] theorem evSs_cons (s : LS) (ss : LSs) : evSs N cf (.cons s ss) σ S = (evS N cf s σ S).seq (evSs N cf ss) := by rw [evSs]
@[simp] theorem evJs_nil (acc : Str) : evJs N cf σ .nil acc S = .ok acc S := by rw [evJs]
@[simp] theorem evJs_cons (e : LE) (es : LEs) (acc : Str) : evJs N cf σ (.cons e es) acc S = (evE N cf σ e S).bind (kJs N cf σ es acc) := by rw [evJs]; rfl
@[simp] theorem lookB_none (r : R U) : lookB none r S = r := rfl
@[simp] theorem retP_val (u : U) : retP (some (.val u)) S = .ok u S := rfl
@[simp] theorem retP_newL (us : List U) : retP (some (.newL us)) S = .ok (.lst us) S := rfl
@[simp] theorem retB_some (b : Bool) : retB (some b) S = .ok (.bl b) S := rfl
@[simp] theorem retT_some (b : Bool) : retT (some b) S = .ok b S := rfl
@[simp] theorem retU_some (u : U) : retU (some u) S = .ok u S := rfl
@[simp] theorem orBad_some : orBad (some σ) S = .nx σ S := rfl
@[simp] theorem assign_nm (i : Nat) (u : U) : assign (.nm i) u σ = some (σ.set i (.val u)) := by rw [assign]
/-- a loop's turn -/
def turnOf (t : LT) (body : LSs) (u : U) (σ : Slots) (S : Sto) : RS := match assign t u σ with
  | some σ1 => evSs N cf body σ1 S
  | none => .bad
def kLoop (t : LT) (body : LSs) (us : List U) (S : Sto) : RS := evFor (turnOf N cf t body) us σ S
@[simp] theorem kLoop_ (t : LT) (body : LSs) (us : List U) : kLoop N cf σ t body us S = evFor (turnOf N cf t body) us σ S := rfl
@[simp] theorem evS_loop (t : LT) (it : LI) (body : LSs) : evS N cf (.loop t it body) σ S = (evI N cf σ it S).then σ (kLoop N cf σ t body) := by rw [evS]; rfl
/-- a comprehension's turn -/
def kTn2 (w : U) (S : Sto) : R (Option U) := .ok (some w) S
def kTn1 (e : LE) (k : Bool) (S : Sto) : R (Option U) := if k = true then (evE N cf σ e S).bind kTn2 else .ok none S
@[simp] theorem kTn2_ (w : U) : kTn2 w S = .ok (some w) S := rfl
@[simp] theorem kTn1_t (e : LE) : kTn1 N cf σ e true S = (evE N cf σ e S).bind kTn2 := rfl
@[simp] theorem kTn1_f (e : LE) : kTn1 N cf σ e false S = .ok none S := rfl
def lcTurn (own : List Nat) (tg : LT) (cs : LK) (e : LE) (u : U) (S : Sto) : R (Option U) := match assign tg u (wipeS σ own) with
  | some σ1 => (evC N cf σ1 cs S).bind (kTn1 N cf σ1 e)
  | none => .bad
def kLc (own : List Nat) (tg : LT) (cs : LK) (e : LE) (us : List U) (S : Sto) : R U := if us.length ≤ big then evLc (lcTurn N cf σ own tg cs e) us [] S else .bad
@[simp] theorem kLc_ (own : List Nat) (tg : LT) (cs : LK) (e : LE) (us : List U) : kLc N cf σ own tg cs e us S = if us.length ≤ big then evLc (lcTurn N cf σ own tg cs e) us [] S else .bad := rfl
@[simp] theorem evE_lc (own : List Nat) (tg : LT) (it : LI) (cs : LK) (e : LE) : evE N cf σ (.lc own tg it cs e) S = (evI N cf σ it S).bind (kLc N cf σ own tg cs e) := by rw [evE]; rfl
/-- what a handler makes of an end -/
def triOf (cs : List Str) (nm : Option Nat) (su : XS) (r : RS) : RS := match r with
  | .exc x σ1 S1 => (match subAny N.sub x.cls cs with
    | some true => evSu N x nm su σ1 S1
    | some false => .exc x σ1 S1
    | none => .bad)
  | r => r
@[simp] theorem evS_tri (body : LSs) (cs : List Str) (nm : Option Nat) (su : XS) : evS N cf (.tri body cs nm su) σ S = triOf N cs nm su (evSs N cf body σ S) := by rw [evS]; cases evSs N cf body σ S <;> rfl
/- lists that a slot owns -/
def borV (o : Option SL) : Option (Option U) := match o with
  | some (.own us) => some (some (.lst us))
  | _ => some none
@[simp] theorem borV_own (us : List U) : borV (some (.own us)) = some (some (.lst us)) := rfl
@[simp] theorem borOf_b (i : Nat) : borOf σ (.b i) = borV σ[i]? := by
  unfold borOf borV
  rfl
@[simp] theorem lookB_some (u : U) (r : R U) : lookB (some (some u)) r S = .ok u S := rfl
def kPop2 (o : Bop) (x y : U) (S : Sto) : R (List U) := newOf (bop o S x y) S
def kPop1 (o : Bop) (b : LE) (x : U) (S : Sto) : R (List U) := (lookB (borOf σ b) (evE N cf σ b S) S).bind (kPop2 o x)
def kPm2 (m : Met) (x y : U) (S : Sto) : R (List U) := newOf (met m x y) S
def kPm1 (m : Met) (e : LE) (x : U) (S : Sto) : R (List U) := if metTy m x = true then (lookB (borOf σ e) (evE N cf σ e S) S).bind (kPm2 m x) else .bad
@[simp] theorem newOf_ (us : List U) : newOf (some (.newL us)) S = .ok us S := rfl
@[simp] theorem kPop2_ (o : Bop) (x y : U) : kPop2 o x y S = newOf (bop o S x y) S := rfl
@[simp] theorem kPop1_ (o : Bop) (b : LE) (x : U) : kPop1 N cf σ o b x S = (lookB (borOf σ b) (evE N cf σ b S) S).bind (kPop2 o x) := rfl
@[simp] theorem kPm2_ (m : Met) (x y : U) : kPm2 m x y S = newOf (met m x y) S := rfl
@[simp] theorem kPm1_ (m : Met) (e : LE) (x : U) : kPm1 N cf σ m e x S = if metTy m x = true then (lookB (borOf σ e) (evE N cf σ e S) S).bind (kPm2 m x) else .bad := rfl
@[simp] theorem evP_op (o : Bop) (a b : LE) : evP N cf σ (.op o a b) S = (lookB (borOf σ a) (evE N cf σ a S) S).bind (kPop1 N cf σ o b) := rfl
@[simp] theorem evP_m1 (m : Met) (o e : LE) : evP N cf σ (.m1 m o e) S = (evE N cf σ o S).bind (kPm1 N cf σ m e) := rfl
def kOwn (i : Nat) (us : List U) (S : Sto) : RS := if i < σ.length then .nx (σ.set i (.own us)) S else .bad
@[simp] theorem kOwn_ (i : Nat) (us : List U) : kOwn σ i us S = if i < σ.length then .nx (σ.set i (.own us)) S else .bad := rfl
@[simp] theorem evS_own (i : Nat) (e : LE) : evS N cf (.own i e) σ S = (evP N cf σ e S).then σ (kOwn σ i) := by rw [evS]; rfl
def kApp (i : Nat) (u : U) (S : Sto) : RS := appS σ i u S
def appV (i : Nat) (o : Option SL) (u : U) (S : Sto) : RS := match o with
  | some (.own us) => if us.length < big then .nx (σ.set i (.own (us ++ [u]))) S else .bad
  | _ => .bad
@[simp] theorem appV_ (i : Nat) (us : List U) (u : U) : appV σ i (some (.own us)) u S = if us.length < big then .nx (σ.set i (.own (us ++ [u]))) S else .bad := rfl
@[simp] theorem kApp_ (i : Nat) (u : U) : kApp σ i u S = appV σ i σ[i]? u S := rfl
@[simp] theorem isOwn_ (us : List U) : isOwn (some (.own us)) = true := rfl
@[simp] theorem evS_appO (i : Nat) (e : LE) : evS N cf (.appO i e) σ S = if isOwn σ[i]? = true then (evE N cf σ e S).then σ (kApp σ i) else .bad := by rw [evS]; rfl
def setOv (i : Nat) (o : Option SL) (j u : U) (S : Sto) : RS := match o, j with
  | some (.own us), .int j => (match ixN us.length j with
    | some k => .nx (σ.set i (.own (us.set k u))) S
    | none => .bad)
  | _, _ => .bad
def setW (i : Nat) (us : List U) (o : Option Nat) (u : U) (S : Sto) : RS := match o with
  | some k => .nx (σ.set i (.own (us.set k u))) S
  | none => .bad
@[simp] theorem setW_ (i : Nat) (us : List U) (k : Nat) (u : U) : setW σ i us (some k) u S = .nx (σ.set i (.own (us.set k u))) S := rfl
@[simp] theorem setOv_ (i : Nat) (us : List U) (j : Int) (u : U) : setOv σ i (some (.own us)) (.int j) u S = setW σ i us (ixN us.length j) u S := rfl
def kSO2 (i : Nat) (u y : U) (S : Sto) : RS := setS σ i y u S
def kSO1 (i : Nat) (j : LE) (u : U) (S : Sto) : RS := if isOwn σ[i]? = true then (evE N cf σ j S).then σ (kSO2 σ i u) else .bad
@[simp] theorem kSO2_ (i : Nat) (u y : U) : kSO2 σ i u y S = setOv σ i σ[i]? y u S := rfl
@[simp] theorem kSO1_ (i : Nat) (j : LE) (u : U) : kSO1 N cf σ i j u S = if isOwn σ[i]? = true then (evE N cf σ j S).then σ (kSO2 σ i u) else .bad := rfl
@[simp] theorem evS_setO (i : Nat) (j e : LE) : evS N cf (.setO i j e) σ S = (evE N cf σ e S).then σ (kSO1 N cf σ i j) := by rw [evS]; rfl
def rlsV (i : Nat) (o : Option SL) (S : Sto) : RS := match o with
  | some (.own us) => .nx (σ.set i (.val (.lst us))) S
  | _ => .bad
@[simp] theorem rlsV_ (i : Nat) (us : List U) : rlsV σ i (some (.own us)) S = .nx (σ.set i (.val (.lst us))) S := rfl
@[simp] theorem evS_relO (i : Nat) : evS N cf (.relO i) σ S = rlsV σ i σ[i]? S := by rw [evS]; rfl
@[simp] theorem borOf_c (u : U) : borOf σ (.c u) = none := rfl
@[simp] theorem borOf_v (i : Nat) : borOf σ (.v i) = none := rfl
@[simp] theorem borOf_xf (i : Nat) (f : Str) : borOf σ (.xf i f) = none := rfl
@[simp] theorem borOf_g (x : Str) : borOf σ (.g x) = none := rfl
@[simp] theorem borOf_op (o : Bop) (a b : LE) : borOf σ (.op o a b) = none := rfl
@[simp] theorem borOf_neg (a : LE) : borOf σ (.neg a) = none := rfl
@[simp] theorem borOf_cmp (o : Cop) (a b : LE) : borOf σ (.cmp o a b) = none := rfl
@[simp] theorem borOf_chn (o o' : Cop) (a b c : LE) : borOf σ (.chn o o' a b c) = none := rfl
@[simp] theorem borOf_not (a : LE) : borOf σ (.not a) = none := rfl
@[simp] theorem borOf_and (a b : LE) : borOf σ (.and a b) = none := rfl
@[simp] theorem borOf_or (a b : LE) : borOf σ (.or a b) = none := rfl
@[simp] theorem borOf_ite (t : LC) (a b : LE) : borOf σ (.ite t a b) = none := rfl
@[simp] theorem borOf_tup (es : LEs) : borOf σ (.tup es) = none := rfl
@[simp] theorem borOf_lst (es : LEs) : borOf σ (.lst es) = none := rfl
@[simp] theorem borOf_sto (es : LEs) : borOf σ (.sto es) = none := rfl
@[simp] theorem borOf_dct (ks : List Key) (es : LEs) : borOf σ (.dct ks es) = none := rfl
@[simp] theorem borOf_sub (a i : LE) : borOf σ (.sub a i) = none := rfl
@[simp] theorem borOf_slc (a : LE) (lo hi : LO) : borOf σ (.slc a lo hi) = none := rfl
@[simp] theorem borOf_fn (f : Fn) (e : LE) : borOf σ (.fn f e) = none := rfl
@[simp] theorem borOf_isi (a : LE) (t : Ty) : borOf σ (.isi a t) = none := rfl
@[simp] theorem borOf_isiT (a : LE) (ts : List Ty) : borOf σ (.isiT a ts) = none := rfl
@[simp] theorem borOf_call (f : Str) (es : LEs) : borOf σ (.call f es) = none := rfl
@[simp] theorem borOf_m1 (m : Met) (o e : LE) : borOf σ (.m1 m o e) = none := rfl
@[simp] theorem borOf_fs (es : LEs) : borOf σ (.fs es) = none := rfl
@[simp] theorem borOf_fv (e : LE) : borOf σ (.fv e) = none := rfl
@[simp] theorem borOf_bad  : borOf σ (.bad ) = none := rfl
@[simp] theorem borOf_lc (own : List Nat) (tg : LT) (it : LI) (cs : LK) (e : LE) : borOf σ (.lc own tg it cs e) = none := rfl
end
/- simp end -/
@[simp] theorem assign_st_tup (is : List Nat) (j : Nat) (us : List U) (σ : Slots) : assign (.st is j) (.tup us) σ = if is.length ≤ us.length then some ((assign.setAll is us σ).set j (.val (.lst (us.drop is.length)))) else none := by rw [assign]
@[simp] theorem assign_st_lst (is : List Nat) (j : Nat) (us : List U) (σ : Slots) : assign (.st is j) (.lst us) σ = if is.length ≤ us.length then some ((assign.setAll is us σ).set j (.val (.lst (us.drop is.length)))) else none := by rw [assign]
@[simp] theorem setAll_nil (us : List U) (σ : Slots) : assign.setAll [] us σ = σ := by unfold assign.setAll; rfl
@[simp] theorem setAll_cons (i : Nat) (is : List Nat) (u : U) (us : List U) (σ : Slots) : assign.setAll (i :: is) (u :: us) σ = assign.setAll is us (σ.set i (.val u)) := by
  show assign.setAll (i :: is) (u :: us) σ = _
  rw [assign.setAll]
theorem eqv_int (a b : Int) : PyData.eqv (.int a) (.int b) = decide (a = b) := by
  first | rfl | (simp [PyData.eqv]; done) | (unfold PyData.eqv; simp)
@[simp] theorem cop_eq_int (S : Sto) (a b : Int) : cop .eq S (.int a) (.int b) = some (decide (a = b)) := by
  have h : cop .eq S (.int a) (.int b) = some (PyData.eqv (.int a) (.int b)) := rfl
  rw [h, eqv_int]
@[simp] theorem cop_ne_int (S : Sto) (a b : Int) : cop .ne S (.int a) (.int b) = some (!decide (a = b)) := by
  have h : cop .ne S (.int a) (.int b) = some (!PyData.eqv (.int a) (.int b)) := rfl
  rw [h, eqv_int]
@[simp] theorem cop_lt_int (S : Sto) (a b : Int) : cop .lt S (.int a) (.int b) = some (decide (a < b)) := rfl
@[simp] theorem cop_le_int (S : Sto) (a b : Int) : cop .le S (.int a) (.int b) = some (decide (a ≤ b)) := rfl
@[simp] theorem cop_gt_int (S : Sto) (a b : Int) : cop .gt S (.int a) (.int b) = some (decide (b < a)) := rfl
@[simp] theorem cop_ge_int (S : Sto) (a b : Int) : cop .ge S (.int a) (.int b) = some (decide (b ≤ a)) := rfl
@[simp] theorem bop_add_int (S : Sto) (a b : Int) : bop .add S (.int a) (.int b) = some (.val (.int (a + b))) := rfl
@[simp] theorem bop_sub_int (S : Sto) (a b : Int) : bop .sub S (.int a) (.int b) = some (.val (.int (a - b))) := rfl
theorem bop_mul_int (S : Sto) (a b : Int) (h : b.natAbs < 18446744073709551616) : bop .mul S (.int a) (.int b) = some (.val (.int (a * b))) := by
  show (if a.natAbs < 18446744073709551616 ∨ b.natAbs < 18446744073709551616 then some (PR.val (.int (a * b))) else none) = _
  rw [if_pos (.inr h)]
theorem bop_mod_int (S : Sto) (a b : Int) (h : 0 < b) : bop .mod S (.int a) (.int b) = some (.val (.int (a % b))) := by
  show (if 0 < b then some (PR.val (.int (a % b))) else none) = _
  rw [if_pos h]
theorem bop_fdiv_int (S : Sto) (a b : Int) (h : 0 < b) (h2 : b < 18446744073709551616) : bop .fdiv S (.int a) (.int b) = some (.val (.int (a / b))) := by
  show (if 0 < b ∧ b < 18446744073709551616 then some (PR.val (.int (a / b))) else none) = _
  rw [if_pos ⟨h, h2⟩]
theorem bop_pow_int (S : Sto) (a b : Int) (h : 0 ≤ b) (h1 : b ≤ 1000) (h2 : a.natAbs < 18446744073709551616) : bop .pow S (.int a) (.int b) = some (.val (.int (a ^ b.toNat))) := by
  show (if 0 ≤ b ∧ b ≤ 1000 ∧ a.natAbs < 18446744073709551616 then some (PR.val (.int (a ^ b.toNat))) else none) = _
  rw [if_pos ⟨h, h1, h2⟩]
theorem bop_add_tup (S : Sto) (a b : List U) (h : a.length + b.length ≤ big) : bop .add S (.tup a) (.tup b) = some (.val (.tup (a ++ b))) := by
  show (if a.length + b.length ≤ big then some (PR.val (.tup (a ++ b))) else none) = _
  rw [if_pos h]
theorem atI_nn {α : Type} (xs : List α) (i : Int) (h : 0 ≤ i) (h2 : i < xs.length) : atI xs i = xs[i.toNat]? := by
  unfold atI ixN
  rw [if_pos h, if_pos h2]
  rfl
theorem item_lst (S : Sto) (us : List U) (i : Int) : item S (.lst us) (.int i) = atI us i := rfl
theorem item_tup (S : Sto) (us : List U) (i : Int) : item S (.tup us) (.int i) = atI us i := rfl
theorem item_ints (cells : List Int) (i : Int) (h : 0 ≤ i) (h2 : i < cells.length) : ∃ x : Int, ∀ S : Sto, item S (.lst (cells.map U.int)) (.int i) = some (.int x) := by
  have h3 : i.toNat < cells.length := by omega
  refine ⟨cells[i.toNat], fun S => ?_⟩
  rw [item_lst, atI_nn _ _ h (by simpa using h2), List.getElem?_map, List.getElem?_eq_getElem h3]
  rfl
theorem item_tup0 (S : Sto) (u : U) (us : List U) : item S (.tup (u :: us)) (.int 0) = some u := by
  rw [item_tup, atI_nn _ _ (by decide) (by simp)]
  rfl
theorem len_lst (S : Sto) (us : List U) : fnc .len S [.lst us] = some (.val (.int us.length)) := rfl
theorem len_tup (S : Sto) (us : List U) : fnc .len S [.tup us] = some (.val (.int us.length)) := rfl
/-! ### loops -/
theorem for_inv {turn : U → Slots → Sto → RS} (I : Slots → Sto → Prop) : ∀ (us : List U) (σ : Slots) (S : Sto), (∀ u ∈ us, ∀ σ S, I σ S → ∃ σ' S', turn u σ S = .nx σ' S' ∧ I σ' S') → I σ S → ∃ σ' S', evFor turn us σ S = .nx σ' S' ∧ I σ' S'
  | [], σ, S, _, h => ⟨σ, S, rfl, h⟩
  | u :: us, σ, S, ht, h => by
    obtain ⟨σ1, S1, e1, h1⟩ := ht u (by simp) σ S h
    obtain ⟨σ2, S2, e2, h2⟩ := for_inv I us σ1 S1 (fun w hw => ht w (by simp [hw])) h1
    refine ⟨σ2, S2, ?_, h2⟩
    rw [evFor, e1]
    exact e2
theorem lc_inv {turn : U → Sto → R (Option U)} (I : Sto → Prop) (P : U → Prop) : ∀ (us acc : List U) (S : Sto), (∀ u ∈ us, ∀ S, I S → ∃ w S', turn u S = .ok (some w) S' ∧ P w ∧ I S') → I S → ∃ ws S', evLc turn us acc S = .ok (.lst (acc ++ ws)) S' ∧ ws.length = us.length ∧ (∀ w ∈ ws, P w) ∧ I S'
  | [], acc, S, _, h => ⟨[], S, by rw [evLc, List.append_nil], rfl, by simp, h⟩
  | u :: us, acc, S, ht, h => by
    obtain ⟨w, S1, e1, p1, h1⟩ := ht u (by simp) S h
    obtain ⟨ws, S2, e2, l2, p2, h2⟩ := lc_inv I P us (acc ++ [w]) S1 (fun w hw => ht w (by simp [hw])) h1
    refine ⟨w :: ws, S2, ?_, by simp [l2], fun x hx => ?_, h2⟩
    · rw [evLc, e1]
      simp only [R.bindN_ok]
      rw [e2]
      simp
    · rcases List.mem_cons.mp hx with rfl | hx
      · exact p1
      · exact p2 x hx
theorem lc_map {turn : U → Sto → R (Option U)} (f : U → U) (S : Sto) : ∀ (us acc : List U), (∀ u ∈ us, turn u S = .ok (some (f u)) S) → evLc turn us acc S = .ok (.lst (acc ++ us.map f)) S
  | [], acc, _ => by rw [evLc, List.map_nil, List.append_nil]
  | u :: us, acc, ht => by
    rw [evLc, ht u (by simp)]
    simp only [R.bindN_ok]
    rw [lc_map f S us (acc ++ [f u]) (fun w hw => ht w (by simp [hw]))]
    simp
theorem bls_map (p : U → Bool) : ∀ us : List U, bls (us.map fun u => .bl (p u)) = some (us.map p)
  | [] => rfl
  | u :: us => by
    rw [List.map_cons, bls, bls_map p us]
    rfl
theorem all_map (S : Sto) (p : U → Bool) (us : List U) : fnc .all S [.lst (us.map fun u => .bl (p u))] = some (.val (.bl (us.all p))) := by
  show ((some (us.map fun u => U.bl (p u))).bind fun ws => (bls ws).map fun bs => PR.val (.bl (bs.all id))) = _
  rw [Option.bind_some, bls_map]
  simp [List.all_map]
/-! ### a bag, first in the store -/
def bagL (cells : List Int) (i c s : Int) : SO := .lst [.lst (cells.map U.int), .int i, .int c, .int s]
def Bg (o : SO) : Prop := ∃ cells i c s, o = bagL cells i c s ∧ 0 ≤ i ∧ 0 ≤ c ∧ 0 ≤ s
section
variable (cells : List Int) (i c s : Int) (R : Sto)
theorem bag0 : item (bagL cells i c s :: R) (.ref 0) (.int 0) = some (.lst (cells.map U.int)) := rfl
theorem bag1 : item (bagL cells i c s :: R) (.ref 0) (.int 1) = some (.int i) := rfl
theorem bag2 : item (bagL cells i c s :: R) (.ref 0) (.int 2) = some (.int c) := rfl
theorem bag3 : item (bagL cells i c s :: R) (.ref 0) (.int 3) = some (.int s) := rfl
theorem bagS1 (x : Int) : stoSet (bagL cells i c s :: R) (.ref 0) (.int 1) (.int x) = some (bagL cells x c s :: R) := rfl
theorem bagS2 (x : Int) : stoSet (bagL cells i c s :: R) (.ref 0) (.int 2) (.int x) = some (bagL cells i x s :: R) := rfl
theorem bagS3 (x : Int) : stoSet (bagL cells i c s :: R) (.ref 0) (.int 3) (.int x) = some (bagL cells i c x :: R) := rfl
end
end Far

set_option Elab.async false
set_option linter.all false
set_option maxRecDepth 100000
set_option maxHeartbeats 4000000
/-! Functions that several laws share: their terms, what they compute. -/
namespace Far.L
open PySem PySem.Spec PyProof.Rows L2
def f_law_bag : LFun := ⟨["_law_script"], ["_law_script", "_law_salt", "_law_cell"], (.cons (.asg (.nm 1) (.c (.int 9145)))
  (.cons (.loop (.nm 2) (.seq (.slc (.v 0) .non (.som (.c (.int 63))))) (.cons (.asg (.nm 1) (.op .mod (.op .add (.op .add (.op .mul (.v 1) (.c (.int 48271))) (.op .mod (.v 2) (.c (.int 2147483629)))) (.c (.int 11))) (.c (.int 2147483647))))
    .nil))
  (.cons (.ret (.sto (.cons (.fn .list (.slc (.v 0) .non (.som (.c (.int 63))))) (.cons (.c (.int 0)) (.cons (.c (.int 0)) (.cons (.v 1) .nil))))))
  .nil)))⟩
def f_law_pull : LFun := ⟨["_law_bag_here", "_law_amount"], ["_law_bag_here", "_law_amount", "_law_seed", "_law_cell", "_law_got"], (.cons (.ite (.and (.cmp .eq (.sub (.v 0) (.c (.int 2))) (.c (.int 0))) (.cmp .lt (.sub (.v 0) (.c (.int 1))) (.fn .len (.sub (.v 0) (.c (.int 0)))))) (.cons (.asg (.nm 3) (.sub (.sub (.v 0) (.c (.int 0))) (.sub (.v 0) (.c (.int 1)))))
    (.cons (.setI (.v 0) (.c (.int 1)) (.op .add (.sub (.v 0) (.c (.int 1))) (.c (.int 1))))
    (.cons (.ite (.cmp .ge (.v 3) (.op .pow (.c (.int 10)) (.c (.int 18)))) (.cons (.setI (.v 0) (.c (.int 2)) (.v 3))
    .nil) (.cons (.setI (.v 0) (.c (.int 3)) (.op .mod (.op .add (.op .add (.op .mul (.sub (.v 0) (.c (.int 3))) (.c (.int 69621))) (.op .mul (.op .mod (.v 3) (.c (.int 2147483629))) (.c (.int 48271)))) (.c (.int 5))) (.c (.int 2147483647))))
    .nil))
    .nil))) .nil)
  (.cons (.ite (.cmp .gt (.sub (.v 0) (.c (.int 2))) (.c (.int 0))) (.cons (.asg (.nm 4) (.op .mod (.sub (.v 0) (.c (.int 2))) (.v 1)))
    (.cons (.setI (.v 0) (.c (.int 2)) (.op .fdiv (.sub (.v 0) (.c (.int 2))) (.v 1)))
    (.cons (.ret (.v 4))
    .nil))) .nil)
  (.cons (.asg (.nm 2) (.sub (.v 0) (.c (.int 3))))
  (.cons (.setI (.v 0) (.c (.int 3)) (.op .mod (.op .add (.op .add (.op .mul (.v 2) (.c (.int 39373))) (.op .mul (.op .fdiv (.v 2) (.c (.int 127773))) (.c (.int 31)))) (.c (.int 1013904223))) (.c (.int 2147483647))))
  (.cons (.ret (.op .mod (.op .add (.op .fdiv (.sub (.v 0) (.c (.int 3))) (.c (.int 97))) (.op .mul (.op .mod (.sub (.v 0) (.c (.int 3))) (.c (.int 8191))) (.c (.int 53)))) (.v 1)))
  .nil)))))⟩
def f_law_of : LFun := ⟨["_law_bag_here", "_law_things"], ["_law_bag_here", "_law_things"], (.cons (.ret (.sub (.v 1) (.call "_law_pull" (.cons (.v 0) (.cons (.fn .len (.v 1)) .nil)))))
  .nil)⟩
def f_law_times : LFun := ⟨["_law_bag_here"], ["_law_bag_here"], (.cons (.ret (.call "_law_of" (.cons (.v 0) (.cons (.lst (.cons (.c (.int 1)) (.cons (.c (.int 1)) (.cons (.c (.int 2)) (.cons (.neg (.c (.int 1))) (.cons (.c (.int 3)) (.cons (.neg (.c (.int 2))) (.cons (.c (.int 0)) (.cons (.op .add (.c (.int 1)) (.call "_law_pull" (.cons (.v 0) (.cons (.c (.int 999)) .nil)))) (.cons (.op .sub (.op .sub (.c (.int 0)) (.c (.int 1))) (.call "_law_pull" (.cons (.v 0) (.cons (.c (.int 999)) .nil)))) .nil)))))))))) .nil))))
  .nil)⟩
def f_law_term : LFun := ⟨["_law_bag_here", "_law_names", "_law_near"], ["_law_bag_here", "_law_names", "_law_near", "_law_kind", "_law_much", "_law_name"], (.cons (.par [3, 4, 5] (.cons (.call "_law_pull" (.cons (.v 0) (.cons (.c (.int 12)) .nil))) (.cons (.call "_law_times" (.cons (.v 0) .nil)) (.cons (.call "_law_of" (.cons (.v 0) (.cons (.v 1) .nil))) .nil))))
  (.cons (.ite (.cmp .lt (.v 3) (.c (.int 3))) (.cons (.ret (.tup (.cons (.c (.str "one")) (.cons (.v 4) .nil))))
    .nil) .nil)
  (.cons (.ite (.cmp .lt (.v 3) (.c (.int 8))) (.cons (.ret (.tup (.cons (.c (.str "look")) (.cons (.v 4) (.cons (.v 5) (.cons (.call "_law_of" (.cons (.v 0) (.cons (.lst (.cons (.neg (.c (.int 1))) (.cons (.c (.int 0)) (.cons (.neg (.c (.int 1))) (.cons (.c (.int 1)) .nil))))) .nil))) .nil))))))
    .nil) .nil)
  (.cons (.ite (.cmp .eq (.v 3) (.c (.int 8))) (.cons (.ret (.tup (.cons (.c (.str "sum")) (.cons (.v 4) (.cons (.v 5) (.cons (.call "_law_of" (.cons (.v 0) (.cons (.lst (.cons (.c (.int 0)) (.cons (.c (.int 2)) .nil))) .nil))) (.cons (.call "_law_of" (.cons (.v 0) (.cons (.lst (.cons (.neg (.c (.int 1))) (.cons (.neg (.c (.int 1))) (.cons (.c (.int 0)) (.cons (.c (.int 1)) .nil))))) .nil))) .nil)))))))
    .nil) .nil)
  (.cons (.ite (.cmp .eq (.v 3) (.c (.int 9))) (.cons (.ret (.tup (.cons (.c (.str "total")) (.cons (.v 4) (.cons (.v 5) (.cons (.call "_law_of" (.cons (.v 0) (.cons (.lst (.cons (.c (.int 0)) (.cons (.c (.int 2)) .nil))) .nil))) (.cons (.op .sub (.call "_law_pull" (.cons (.v 0) (.cons (.v 2) .nil))) (.c (.int 1))) .nil)))))))
    .nil) .nil)
  (.cons (.ite (.and (.cmp .eq (.v 3) (.c (.int 10))) (.cmp .eq (.call "_law_pull" (.cons (.v 0) (.cons (.c (.int 6)) .nil))) (.c (.int 0)))) (.cons (.ret (.tup (.cons (.c (.str "gone")) (.cons (.v 4) .nil))))
    .nil) .nil)
  (.cons (.ret (.tup (.cons (.c (.str "at")) (.cons (.v 4) (.cons (.v 5) (.cons (.call "_law_pull" (.cons (.v 0) (.cons (.v 2) .nil))) .nil))))))
  .nil)))))))⟩
def f_law_formula : LFun := ⟨["_law_bag_here", "_law_names", "_law_near"], ["_law_bag_here", "_law_names", "_law_near", "_law_k"], (.cons (.ret (.fn .tuple (.lc [3] (.nm 3) (.rng1 (.call "_law_of" (.cons (.v 0) (.cons (.lst (.cons (.c (.int 1)) (.cons (.c (.int 2)) (.cons (.c (.int 1)) (.cons (.c (.int 3)) (.cons (.c (.int 0)) (.cons (.c (.int 2)) .nil))))))) .nil)))) .non (.call "_law_term" (.cons (.v 0) (.cons (.v 1) (.cons (.v 2) .nil)))))))
  .nil)⟩
def f_law_like : LFun := ⟨["_law_found", "_law_due"], ["_law_found", "_law_due", "_law_k"], (.cons (.ite (.e (.isi (.v 1) .dict)) (.cons (.ret (.and (.isi (.v 0) .dict) (.call "_law_like" (.cons (.fn .list .bad) (.cons (.fn .list .bad) .nil)))))
    .nil) .nil)
  (.cons (.ite (.or (.cmp .ne (.isi (.v 1) .tuple) (.isi (.v 0) .tuple)) (.cmp .ne (.isi (.v 1) .list) (.isi (.v 0) .list))) (.cons (.ret (.c (.bl false)))
    .nil) .nil)
  (.cons (.ite (.not (.e (.isiT (.v 1) [.tuple, .list]))) (.cons (.ret (.and (.cmp .eq (.isi (.v 0) .bool) (.isi (.v 1) .bool)) (.cmp .eq (.v 0) (.v 1))))
    .nil) .nil)
  (.cons (.ret (.and (.cmp .eq (.fn .len (.v 0)) (.fn .len (.v 1))) (.fn .all (.lc [2] (.nm 2) (.rng1 (.fn .len (.v 1))) .non (.call "_law_like" (.cons (.sub (.v 0) (.v 2)) (.cons (.sub (.v 1) (.v 2)) .nil)))))))
  .nil))))⟩
def f_is_number : LFun := ⟨["thing", "low", "high"], ["thing", "low", "high"], (.cons (.ret (.and (.isi (.v 0) .int) (.and (.not (.isi (.v 0) .bool)) (.chn .le .le (.v 1) (.v 0) (.v 2)))))
  .nil)⟩
def f_is_term : LFun := ⟨["term", "columns"], ["term", "columns", "word", "much", "name", "more", "rows"], (.cons (.ite (.or (.not (.e (.isi (.v 0) .tuple))) (.or (.cmp .lt (.fn .len (.v 0)) (.c (.int 2))) (.not (.e (.isi (.sub (.v 0) (.c (.int 0))) .str))))) (.cons (.ret (.c (.bl false)))
    .nil) .nil)
  (.cons (.asg (.st [2, 3] 5) (.v 0))
  (.cons (.ite (.or (.cmp .notin (.v 2) (.g "COUNTS")) (.or (.cmp .ne (.sub (.g "COUNTS") (.v 2)) (.fn .len (.v 0))) (.not (.e (.call "is_number" (.cons (.v 3) (.cons (.neg (.g "MOST_TIMES")) (.cons (.g "MOST_TIMES") .nil)))))))) (.cons (.ret (.c (.bl false)))
    .nil) .nil)
  (.cons (.ite (.cmp .isin (.v 2) (.tup (.cons (.c (.str "one")) (.cons (.c (.str "gone")) .nil)))) (.cons (.ret (.c (.bl true)))
    .nil) .nil)
  (.cons (.asg (.st [4] 6) (.v 5))
  (.cons (.ite (.cmp .notin (.v 4) (.v 1)) (.cons (.ret (.c (.bl false)))
    .nil) .nil)
  (.cons (.ite (.cmp .eq (.v 2) (.c (.str "look"))) (.cons (.ret (.call "is_number" (.cons (.sub (.v 6) (.c (.int 0))) (.cons (.neg (.c (.int 1))) (.cons (.c (.int 1)) .nil)))))
    .nil) .nil)
  (.cons (.ite (.not (.e (.call "is_number" (.cons (.sub (.v 6) (.c (.int 0))) (.cons (.c (.int 0)) (.cons (.g "MOST_ROW") .nil)))))) (.cons (.ret (.c (.bl false)))
    .nil) .nil)
  (.cons (.ret (.or (.cmp .eq (.v 2) (.c (.str "at"))) (.call "is_number" (.cons (.sub (.v 6) (.c (.int 1))) (.cons (.neg (.c (.int 1))) (.cons (.ite (.cmp .eq (.v 2) (.c (.str "sum"))) (.c (.int 1)) (.g "MOST_ROW")) .nil))))))
  .nil)))))))))⟩
def f_need_formula : LFun := ⟨["formula", "columns"], ["formula", "columns", "term"], (.cons (.ite (.or (.not (.e (.isi (.v 0) .tuple))) (.cmp .gt (.fn .len (.v 0)) (.g "MOST_TERMS"))) (.cons (.rse "BadFormula" .nil)
    .nil) .nil)
  (.cons (.ite (.not (.e (.fn .all (.lc [2] (.nm 2) (.seq (.v 0)) .non (.call "is_term" (.cons (.v 2) (.cons (.v 1) .nil))))))) (.cons (.rse "BadFormula" .nil)
    .nil) .nil)
  (.cons (.ret (.v 0))
  .nil)))⟩
structure EPull (N : Cn) (T : Str → Option LFun) : Prop where
  pullT : T "_law_pull" = some f_law_pull
  pullH : N.has "_law_pull" = true
structure EOf (N : Cn) (T : Str → Option LFun) : Prop extends EPull N T where
  ofT : T "_law_of" = some f_law_of
  ofH : N.has "_law_of" = true
structure ETerm (N : Cn) (T : Str → Option LFun) : Prop extends EOf N T where
  timesT : T "_law_times" = some f_law_times
  timesH : N.has "_law_times" = true
  termT : T "_law_term" = some f_law_term
  termH : N.has "_law_term" = true
structure EForm (N : Cn) (T : Str → Option LFun) : Prop extends ETerm N T where
  formT : T "_law_formula" = some f_law_formula
  formH : N.has "_law_formula" = true
structure ENum (N : Cn) (T : Str → Option LFun) : Prop where
  numT : T "is_number" = some f_is_number
  numH : N.has "is_number" = true
structure EIsT (N : Cn) (T : Str → Option LFun) : Prop extends ENum N T where
  istT : T "is_term" = some f_is_term
  istH : N.has "is_term" = true
  gRow : N.g "MOST_ROW" = some (.int 1000000000000000)
  gTimes : N.g "MOST_TIMES" = some (.int 999)
  gCounts : N.g "COUNTS" = some (.kdt [.inr "one", .inr "look", .inr "at", .inr "sum", .inr "total", .inr "gone"] [.int 2, .int 4, .int 4, .int 5, .int 5, .int 2])
structure ENeed (N : Cn) (T : Str → Option LFun) : Prop extends EIsT N T where
  needT : T "need_formula" = some f_need_formula
  needH : N.has "need_formula" = true
  gTerms : N.g "MOST_TERMS" = some (.int 5)
  xmB : N.xm "BadFormula" [] = some [(("word" : Str), U.str "badformula")]
structure ELike (N : Cn) (T : Str → Option LFun) : Prop where
  likeT : T "_law_like" = some f_law_like
  likeH : N.has "_law_like" = true
section
variable {N : Cn} {T : Str → Option LFun}
theorem mod_nn (a b : Int) (hb : 0 < b) : 0 ≤ a % b ∧ a % b < b := ⟨Int.emod_nonneg _ (by omega), Int.emod_lt_of_pos _ hb⟩
def tailS : LSs → LSs
  | .cons _ ss => ss
  | .nil => .nil
def headS : LSs → LS
  | .cons s _ => s
  | .nil => .brk
theorem call_eq {k : Nat} (hk : 1 ≤ k) {f : Str} {F : LFun} {us : List U} {S : Sto} (hF : T f = some F) (hl : us.length = F.params.length) : callN N T k f us S = endU (evSs N (callN N T (k - 1)) F.body (startU F.names.length us) S) := by
  obtain ⟨n, rfl⟩ : ∃ n, k = n + 1 := ⟨k - 1, by omega⟩
  rw [callN_eq hF, if_pos hl]
  rfl
theorem pull2 {cf : CF} {R : Sto} {m : Int} (h1 : 0 < m) (h2 : m < 18446744073709551616) (cells : List Int) (i c s : Int) (x y z : SL) (hi : 0 ≤ i) (hc : 0 ≤ c) (hs : 0 ≤ s) :
    ∃ r o', endU (evSs N cf (tailS f_law_pull.body) [.val (.ref 0), .val (.int m), x, y, z] (bagL cells i c s :: R)) = .ok (.int r) (o' :: R) ∧ 0 ≤ r ∧ r < m ∧ Bg o' := by
  by_cases c1 : 0 < c
  · refine ⟨c % m, bagL cells i (c / m) s, ?_, (mod_nn c m h1).1, (mod_nn c m h1).2, cells, i, c / m, s, rfl, hi, Int.ediv_nonneg hc (by omega), hs⟩
    simp [f_law_pull, tailS, bag2, bagS2, c1, bop_mod_int _ _ _ h1, bop_fdiv_int _ _ _ h1 h2, endU]
  · let s' : Int := (s * 39373 + s / 127773 * 31 + 1013904223) % 2147483647
    refine ⟨(s' / 97 + s' % 8191 * 53) % m, bagL cells i c s', ?_, (mod_nn _ m h1).1, (mod_nn _ m h1).2, cells, i, c, s', rfl, hi, hc, (mod_nn _ _ (by decide)).1⟩
    simp [f_law_pull, tailS, bag2, bag3, bagS3, c1, bop_mod_int, bop_fdiv_int, bop_mul_int, h1, endU, s']
theorem pull_ok (E : EPull N T) {k : Nat} (hk : 1 ≤ k) {o : SO} {R : Sto} (h : Bg o) {m : Int} (h1 : 0 < m) (h2 : m < 18446744073709551616) : ∃ r o', callN N T k "_law_pull" [.ref 0, .int m] (o :: R) = .ok (.int r) (o' :: R) ∧ 0 ≤ r ∧ r < m ∧ Bg o' := by
  obtain ⟨cells, i, c, s, rfl, hi, hc, hs⟩ := h
  rw [call_eq hk E.pullT rfl]
  show ∃ r o', endU ((evS N (callN N T (k - 1)) (headS f_law_pull.body) [.val (.ref 0), .val (.int m), .no, .no, .no] (bagL cells i c s :: R)).seq fun σ1 S1 => evSs N (callN N T (k - 1)) (tailS f_law_pull.body) σ1 S1) = _ ∧ _
  by_cases c1 : c = 0 ∧ i < cells.length
  · obtain ⟨x, hx⟩ := item_ints cells i hi c1.2
    by_cases c2 : 1000000000000000000 ≤ x
    · have e : evS N (callN N T (k - 1)) (headS f_law_pull.body) [.val (.ref 0), .val (.int m), .no, .no, .no] (bagL cells i c s :: R) = .nx [.val (.ref 0), .val (.int m), .no, .val (.int x), .no] (bagL cells (i + 1) x s :: R) := by
        simp [f_law_pull, headS, bag0, bag1, bag2, bag3, bagS1, bagS2, bagS3, c1, c2, hx, len_lst, bop_mod_int, bop_mul_int, bop_pow_int]
      rw [e]
      exact pull2 h1 h2 cells _ _ _ _ _ _ (by omega) (by omega) hs
    · have e : ∃ s', 0 ≤ s' ∧ evS N (callN N T (k - 1)) (headS f_law_pull.body) [.val (.ref 0), .val (.int m), .no, .no, .no] (bagL cells i c s :: R) = .nx [.val (.ref 0), .val (.int m), .no, .val (.int x), .no] (bagL cells (i + 1) c s' :: R) := by
        refine ⟨(s * 69621 + x % 2147483629 * 48271 + 5) % 2147483647, (mod_nn _ 2147483647 (by decide)).1, ?_⟩
        simp [f_law_pull, headS, bag0, bag1, bag2, bag3, bagS1, bagS2, bagS3, c1, c2, hx, len_lst, bop_mod_int, bop_mul_int, bop_pow_int]
      obtain ⟨s', hs', e⟩ := e
      rw [e]
      exact pull2 h1 h2 cells _ _ _ _ _ _ (by omega) hc hs'
  · have e : evS N (callN N T (k - 1)) (headS f_law_pull.body) [.val (.ref 0), .val (.int m), .no, .no, .no] (bagL cells i c s :: R) = .nx [.val (.ref 0), .val (.int m), .no, .no, .no] (bagL cells i c s :: R) := by
      by_cases c2 : c = 0
      · have c3 : ¬ i < cells.length := fun z => c1 ⟨c2, z⟩
        simp [f_law_pull, headS, bag0, bag1, bag2, bag3, c2, c3, len_lst]
      · simp [f_law_pull, headS, bag0, bag1, bag2, bag3, c2, len_lst]
    rw [e]
    exact pull2 h1 h2 cells _ _ _ _ _ _ hi hc hs
/-- what is drawn from a list -/
theorem of_ok (E : EOf N T) {k : Nat} (hk : 2 ≤ k) {o : SO} {R : Sto} (h : Bg o) {us : List U} (h1 : us ≠ []) (h2 : us.length < 100000) : ∃ u o', callN N T k "_law_of" [.ref 0, .lst us] (o :: R) = .ok u (o' :: R) ∧ u ∈ us ∧ Bg o' := by
  have hp : 0 < us.length := List.length_pos_iff.mpr h1
  obtain ⟨r, o', e, r0, r1, b⟩ := pull_ok E.toEPull (k := k - 1) (by omega) (R := R) h (m := us.length) (by omega) (by omega)
  have h3 : r.toNat < us.length := by omega
  refine ⟨us[r.toNat], o', ?_, List.getElem_mem _, b⟩
  rw [call_eq (by omega) E.ofT rfl]
  have hi : ∀ S, item S (.lst us) (.int r) = some us[r.toNat] := fun S => by
    rw [item_lst, atI_nn _ _ r0 (by omega), List.getElem?_eq_getElem h3]
  simp [f_law_of, startU, E.pullH, e, len_lst, hi, endU]
/-- a start of the bag -/
theorem bag_ok {k : Nat} (hk : 1 ≤ k) (hT : T "_law_bag" = some f_law_bag) (ns : List Int) (hl : ns.length ≤ 63) : ∃ o, callN N T k "_law_bag" [.fz (ns.map U.int)] [] = .ok (.ref 0) [o] ∧ Bg o := by
  rw [call_eq hk hT rfl]
  have hc : cutL (ns.map U.int) none (some 63) = ns.map U.int := by
    have e1 : HT.sIx (ns.map U.int).length 0 none = 0 := rfl
    have e2 : (ns.map U.int).length ≤ HT.sIx (ns.map U.int).length (ns.map U.int).length (some 63) := by
      unfold HT.sIx
      simp
      omega
    unfold cutL
    rw [e1, List.drop_zero, Nat.sub_zero, List.take_of_length_le e2]
  have hcut : ∀ S, cut S (.fz (ns.map U.int)) none (some 63) = some (.newL (ns.map U.int)) := fun S => by
    show some (PR.newL (cutL (ns.map U.int) none (some 63))) = _
    rw [hc]
  obtain ⟨σ', S', e, s, y, hs, rfl, rfl⟩ := for_inv (turn := turnOf N (callN N T (k - 1)) (.nm 2) (.cons (.asg (.nm 1) (.op .mod (.op .add (.op .add (.op .mul (.v 1) (.c (.int 48271))) (.op .mod (.v 2) (.c (.int 2147483629)))) (.c (.int 11))) (.c (.int 2147483647)))) .nil))
    (fun σ S => ∃ s y, 0 ≤ s ∧ σ = [.val (.fz (ns.map U.int)), .val (.int s), y] ∧ S = []) (ns.map U.int) [.val (.fz (ns.map U.int)), .val (.int 9145), .no] [] (fun u hu σ S h => by
    obtain ⟨s, y, hs, rfl, rfl⟩ := h
    obtain ⟨x, hx, rfl⟩ := List.mem_map.mp hu
    refine ⟨_, _, ?_, (s * 48271 + x % 2147483629 + 11) % 2147483647, .val (.int x), (mod_nn _ _ (by decide)).1, rfl, rfl⟩
    simp [turnOf, bop_mod_int, bop_mul_int]) ⟨9145, .no, by decide, rfl, rfl⟩
  refine ⟨bagL ns 0 0 s, ?_, ns, 0, 0, s, rfl, by decide, by decide, hs⟩
  simp [f_law_bag, startU, hcut, e]
  simp [fnc, U.items, endU, bagL, big]
/-! ### terms -/
/-- a whole number, or a text that == tells -/
def flatU : U → Bool
  | .non => true
  | .int _ => true
  | .str s => SeqAt.shaped (.str s)
  | _ => false
@[simp] theorem flat_int (i : Int) : flatU (.int i) = true := rfl
@[simp] theorem flat_one : flatU (.str "one") = true := by kernel_rfl
@[simp] theorem flat_look : flatU (.str "look") = true := by kernel_rfl
@[simp] theorem flat_at : flatU (.str "at") = true := by kernel_rfl
@[simp] theorem flat_sum : flatU (.str "sum") = true := by kernel_rfl
@[simp] theorem flat_total : flatU (.str "total") = true := by kernel_rfl
@[simp] theorem flat_gone : flatU (.str "gone") = true := by kernel_rfl
theorem times_ok (E : ETerm N T) {k : Nat} (hk : 3 ≤ k) {o : SO} {R : Sto} (h : Bg o) : ∃ t o', callN N T k "_law_times" [.ref 0] (o :: R) = .ok (.int t) (o' :: R) ∧ Bg o' := by
  obtain ⟨r1, o1, e1, _, _, b1⟩ := pull_ok E.toEPull (k := k - 1) (by omega) (R := R) h (m := 999) (by omega) (by omega)
  obtain ⟨r2, o2, e2, _, _, b2⟩ := pull_ok E.toEPull (k := k - 1) (by omega) (R := R) b1 (m := 999) (by omega) (by omega)
  obtain ⟨u, o3, e3, m3, b3⟩ := of_ok E.toEOf (k := k - 1) (by omega) (R := R) b2 (us := [.int 1, .int 1, .int 2, .int (-1), .int 3, .int (-2), .int 0, .int (1 + r1), .int (0 - 1 - r2)]) (by simp) (by simp)
  have hu : ∃ t, u = .int t := by
    simp only [List.mem_cons, List.not_mem_nil, or_false] at m3
    rcases m3 with h | h | h | h | h | h | h | h | h <;> exact ⟨_, h⟩
  obtain ⟨t, rfl⟩ := hu
  refine ⟨t, o3, ?_, b3⟩
  rw [call_eq (by omega) E.timesT rfl]
  simp at e3
  simp [f_law_times, startU, E.pullH, E.ofH, e1, e2, e3, endU, big]
theorem term_ok (E : ETerm N T) {k : Nat} (hk : 4 ≤ k) {o : SO} {R : Sto} (h : Bg o) {us : List U} (h1 : us ≠ []) (h2 : us.length < 100000) (h3 : ∀ u ∈ us, flatU u = true) {near : Int} (h4 : 0 < near) (h5 : near < 18446744073709551616) :
    ∃ ws o', callN N T k "_law_term" [.ref 0, .lst us, .int near] (o :: R) = .ok (.tup ws) (o' :: R) ∧ (∀ w ∈ ws, flatU w = true) ∧ ws.length ≤ 5 ∧ Bg o' := by
  obtain ⟨kd, o1, e1, _, _, b1⟩ := pull_ok E.toEPull (k := k - 1) (by omega) (R := R) h (m := 12) (by omega) (by omega)
  obtain ⟨t, o2, e2, b2⟩ := times_ok E (k := k - 1) (by omega) (R := R) b1
  obtain ⟨nm, o3, e3, m3, b3⟩ := of_ok E.toEOf (k := k - 1) (by omega) (R := R) b2 h1 h2
  have fn := h3 nm m3
  rw [call_eq (by omega) E.termT rfl]
  by_cases c1 : kd < 3
  · refine ⟨[.str "one", .int t], o3, ?_, by simp, by simp, b3⟩
    simp [f_law_term, startU, E.pullH, E.ofH, E.timesH, e1, e2, e3, endU, big, setVals, c1]
  by_cases c2 : kd < 8
  · obtain ⟨u, o4, e4, m4, b4⟩ := of_ok E.toEOf (k := k - 1) (by omega) (R := R) b3 (us := [.int (-1), .int 0, .int (-1), .int 1]) (by simp) (by simp)
    refine ⟨[.str "look", .int t, nm, u], o4, ?_, ?_, by simp, b4⟩
    · simp [f_law_term, startU, E.pullH, E.ofH, E.timesH, e1, e2, e3, e4, endU, big, setVals, c1, c2]
    · have f4 : ∀ w ∈ [U.int (-1), .int 0, .int (-1), .int 1], flatU w = true := by simp
      simp [f4 u m4, fn]
  by_cases c3 : kd = 8
  · obtain ⟨u, o4, e4, m4, b4⟩ := of_ok E.toEOf (k := k - 1) (by omega) (R := R) b3 (us := [.int 0, .int 2]) (by simp) (by simp)
    obtain ⟨v, o5, e5, m5, b5⟩ := of_ok E.toEOf (k := k - 1) (by omega) (R := R) b4 (us := [.int (-1), .int (-1), .int 0, .int 1]) (by simp) (by simp)
    refine ⟨[.str "sum", .int t, nm, u, v], o5, ?_, ?_, by simp, b5⟩
    · simp [f_law_term, startU, E.pullH, E.ofH, E.timesH, e1, e2, e3, e4, e5, endU, big, setVals, c3]
    · have f4 : ∀ w ∈ [U.int 0, .int 2], flatU w = true := by simp
      have f5 : ∀ w ∈ [U.int (-1), .int (-1), .int 0, .int 1], flatU w = true := by simp
      simp [f4 u m4, f5 v m5, fn]
  by_cases c4 : kd = 9
  · obtain ⟨u, o4, e4, m4, b4⟩ := of_ok E.toEOf (k := k - 1) (by omega) (R := R) b3 (us := [.int 0, .int 2]) (by simp) (by simp)
    obtain ⟨v, o5, e5, _, _, b5⟩ := pull_ok E.toEPull (k := k - 1) (by omega) (R := R) b4 h4 h5
    refine ⟨[.str "total", .int t, nm, u, .int (v - 1)], o5, ?_, ?_, by simp, b5⟩
    · simp [f_law_term, startU, E.pullH, E.ofH, E.timesH, e1, e2, e3, e4, e5, endU, big, setVals, c4]
    · have f4 : ∀ w ∈ [U.int 0, .int 2], flatU w = true := by simp
      simp [f4 u m4, fn]
  by_cases c5 : kd = 10
  · obtain ⟨x, o4, e4, _, _, b4⟩ := pull_ok E.toEPull (k := k - 1) (by omega) (R := R) b3 (m := 6) (by omega) (by omega)
    by_cases c6 : x = 0
    · refine ⟨[.str "gone", .int t], o4, ?_, by simp, by simp, b4⟩
      simp [f_law_term, startU, E.pullH, E.ofH, E.timesH, e1, e2, e3, e4, endU, big, setVals, c5, c6]
    · obtain ⟨v, o5, e5, _, _, b5⟩ := pull_ok E.toEPull (k := k - 1) (by omega) (R := R) b4 h4 h5
      refine ⟨[.str "at", .int t, nm, .int v], o5, ?_, by simp [fn], by simp, b5⟩
      simp [f_law_term, startU, E.pullH, E.ofH, E.timesH, e1, e2, e3, e4, e5, endU, big, setVals, c5, c6]
  · obtain ⟨v, o5, e5, _, _, b5⟩ := pull_ok E.toEPull (k := k - 1) (by omega) (R := R) b3 h4 h5
    refine ⟨[.str "at", .int t, nm, .int v], o5, ?_, by simp [fn], by simp, b5⟩
    simp [f_law_term, startU, E.pullH, E.ofH, E.timesH, e1, e2, e3, e5, endU, big, setVals, c1, c2, c3, c4, c5]
end
end Far.L

set_option Elab.async false
set_option linter.all false
set_option maxRecDepth 100000
set_option maxHeartbeats 4000000
/-! Formulas: drawn ones, looked at ones. -/
namespace Far.L
open PySem PySem.Spec PyProof.Rows L2
theorem eq_look_look (S : Sto) : cop .eq S (.str "look") (.str "look") = some true := by kernel_rfl
theorem eq_look_at (S : Sto) : cop .eq S (.str "look") (.str "at") = some false := by kernel_rfl
theorem eq_look_sum (S : Sto) : cop .eq S (.str "look") (.str "sum") = some false := by kernel_rfl
theorem eq_at_look (S : Sto) : cop .eq S (.str "at") (.str "look") = some false := by kernel_rfl
theorem eq_at_at (S : Sto) : cop .eq S (.str "at") (.str "at") = some true := by kernel_rfl
theorem eq_at_sum (S : Sto) : cop .eq S (.str "at") (.str "sum") = some false := by kernel_rfl
theorem eq_sum_look (S : Sto) : cop .eq S (.str "sum") (.str "look") = some false := by kernel_rfl
theorem eq_sum_at (S : Sto) : cop .eq S (.str "sum") (.str "at") = some false := by kernel_rfl
theorem eq_sum_sum (S : Sto) : cop .eq S (.str "sum") (.str "sum") = some true := by kernel_rfl
theorem eq_total_look (S : Sto) : cop .eq S (.str "total") (.str "look") = some false := by kernel_rfl
theorem eq_total_at (S : Sto) : cop .eq S (.str "total") (.str "at") = some false := by kernel_rfl
theorem eq_total_sum (S : Sto) : cop .eq S (.str "total") (.str "sum") = some false := by kernel_rfl
/-- a whole number between -/
def numB : U → Int → Int → Bool
  | .int i, lo, hi => decide (lo ≤ i) && decide (i ≤ hi)
  | _, _, _ => false
section
variable {N : Cn} {T : Str → Option LFun}
theorem num_ok (E : ENum N T) {k : Nat} (hk : 1 ≤ k) {u : U} (hu : flatU u = true) (lo hi : Int) (S : Sto) : callN N T k "is_number" [u, .int lo, .int hi] S = .ok (.bl (numB u lo hi)) S := by
  rw [call_eq hk E.numT rfl]
  cases u with
  | int i =>
    by_cases c1 : lo ≤ i
    · simp [f_is_number, startU, tyIs, truth, c1, numB, endU]
    · simp [f_is_number, startU, tyIs, truth, c1, numB, endU]
  | str x => simp [f_is_number, startU, tyIs, numB, endU]
  | non => simp [f_is_number, startU, tyIs, numB, endU]
  | _ => cases hu
def memB (u : U) (names : List U) : Bool := (inFlat u names).getD false
theorem flatV_of {u : U} (h : flatU u = true) : ∃ v, flatV? u = some v := by
  cases u <;> first | exact ⟨_, rfl⟩ | cases h
theorem mapM_of : ∀ {us : List U}, (∀ u ∈ us, flatU u = true) → ∃ vs, us.mapM flatV? = some vs
  | [], _ => ⟨[], rfl⟩
  | u :: us, h => by
    obtain ⟨v, hv⟩ := flatV_of (h u (by simp))
    obtain ⟨vs, hvs⟩ := mapM_of (us := us) fun w hw => h w (by simp [hw])
    exact ⟨v :: vs, by rw [List.mapM_cons, hv, hvs]; rfl⟩
theorem mem_some {u : U} {names : List U} (h : flatU u = true) (hn : ∀ w ∈ names, flatU w = true) : inFlat u names = some (memB u names) := by
  obtain ⟨v, hv⟩ := flatV_of h
  obtain ⟨vs, hvs⟩ := mapM_of hn
  unfold memB inFlat
  rw [hv, hvs]
  rfl
/-- a list or a tuple of names -/
def isSeq (c : U) (names : List U) : Prop := c = .lst names ∨ c = .tup names
theorem notin_seq {u c : U} {names : List U} (hc : isSeq c names) (h : flatU u = true) (hn : ∀ w ∈ names, flatU w = true) (S : Sto) : cop .notin S u c = some (!memB u names) := by
  rcases hc with rfl | rfl
  · show (inL u names).map (!·) = _
    unfold inL
    rw [mem_some h hn]; rfl
  · show (inFlat u names).map (!·) = _
    rw [mem_some h hn]; rfl
def cKeys : List Key := [.inr "one", .inr "look", .inr "at", .inr "sum", .inr "total", .inr "gone"]
def cVals : List U := [.int 2, .int 4, .int 4, .int 5, .int 5, .int 2]
theorem c_one : dctGet cKeys cVals (.inr "one") = some (.int 2) := by kernel_rfl
theorem c_look : dctGet cKeys cVals (.inr "look") = some (.int 4) := by kernel_rfl
theorem c_at : dctGet cKeys cVals (.inr "at") = some (.int 4) := by kernel_rfl
theorem c_sum : dctGet cKeys cVals (.inr "sum") = some (.int 5) := by kernel_rfl
theorem c_total : dctGet cKeys cVals (.inr "total") = some (.int 5) := by kernel_rfl
theorem c_gone : dctGet cKeys cVals (.inr "gone") = some (.int 2) := by kernel_rfl
theorem c_none {w : Str} (h1 : w ≠ "one") (h2 : w ≠ "look") (h3 : w ≠ "at") (h4 : w ≠ "sum") (h5 : w ≠ "total") (h6 : w ≠ "gone") : dctGet cKeys cVals (.inr w) = none := by
  simp [cKeys, cVals, dctGet, Ne.symm h1, Ne.symm h2, Ne.symm h3, Ne.symm h4, Ne.symm h5, Ne.symm h6]
theorem kdt_notin (S : Sto) (w : Str) : cop .notin S (.str w) (.kdt cKeys cVals) = some (!(dctGet cKeys cVals (.inr w)).isSome) := rfl
theorem kdt_item (S : Sto) (w : Str) : item S (.kdt cKeys cVals) (.str w) = dctGet cKeys cVals (.inr w) := rfl
theorem EIsT.gc (E : EIsT N T) : N.g "COUNTS" = some (.kdt cKeys cVals) := E.gCounts
theorem it_one (S : Sto) : cop .isin S (.str "one") (.tup [.str "one", .str "gone"]) = some true := by kernel_rfl
theorem it_gone (S : Sto) : cop .isin S (.str "gone") (.tup [.str "one", .str "gone"]) = some true := by kernel_rfl
theorem it_look (S : Sto) : cop .isin S (.str "look") (.tup [.str "one", .str "gone"]) = some false := by kernel_rfl
theorem it_at (S : Sto) : cop .isin S (.str "at") (.tup [.str "one", .str "gone"]) = some false := by kernel_rfl
theorem it_sum (S : Sto) : cop .isin S (.str "sum") (.tup [.str "one", .str "gone"]) = some false := by kernel_rfl
theorem it_total (S : Sto) : cop .isin S (.str "total") (.tup [.str "one", .str "gone"]) = some false := by kernel_rfl
theorem ne1 : ¬ ("at" : Str) = "look" := by decide
theorem ne2 : ¬ ("sum" : Str) = "look" := by decide
theorem ne3 : ¬ ("sum" : Str) = "at" := by decide
theorem ne4 : ¬ ("total" : Str) = "look" := by decide
theorem ne5 : ¬ ("total" : Str) = "at" := by decide
theorem ne6 : ¬ ("total" : Str) = "sum" := by decide
/-- a good term -/
def goodB (names : List U) : List U → Bool
  | [.str w, a] => decide (w = "one" ∨ w = "gone") && numB a (-999) 999
  | [.str w, a, nm, r] => numB a (-999) 999 && (memB nm names && ((decide (w = "look") && numB r (-1) 1) || (decide (w = "at") && numB r 0 1000000000000000)))
  | [.str w, a, nm, r, s] => numB a (-999) 999 && (memB nm names && (numB r 0 1000000000000000 && ((decide (w = "sum") && numB s (-1) 1) || (decide (w = "total") && numB s (-1) 1000000000000000))))
  | _ => false
section
variable (E : EIsT N T) {k : Nat} (hk : 2 ≤ k) {c : U} {names : List U} (hc : isSeq c names) (hn : ∀ w ∈ names, flatU w = true) (S : Sto)
include E hk
theorem ist_short {ws : List U} (hl : ws.length < 2) : callN N T k "is_term" [.tup ws, c] S = .ok (.bl false) S := by
  rw [call_eq (by omega) E.istT rfl]
  have h2 : (ws.length : Int) < 2 := by omega
  simp [f_is_term, startU, tyIs, truth, len_tup, h2, endU]
theorem ist_int {i : Int} {ws : List U} : callN N T k "is_term" [.tup (.int i :: ws), c] S = .ok (.bl false) S := by
  rw [call_eq (by omega) E.istT rfl]
  by_cases h2 : ((ws.length : Int) + 1) < 2
  · simp [f_is_term, startU, tyIs, truth, len_tup, h2, endU]
  · have e : item S (.tup (.int i :: ws)) (.int 0) = some (.int i) := item_tup0 _ _ _
    simp [f_is_term, startU, tyIs, truth, len_tup, h2, endU, e]
theorem ist_non {ws : List U} : callN N T k "is_term" [.tup (.non :: ws), c] S = .ok (.bl false) S := by
  rw [call_eq (by omega) E.istT rfl]
  by_cases h2 : ((ws.length : Int) + 1) < 2
  · simp [f_is_term, startU, tyIs, truth, len_tup, h2, endU]
  · have e : item S (.tup (.non :: ws)) (.int 0) = some .non := item_tup0 _ _ _
    simp [f_is_term, startU, tyIs, truth, len_tup, h2, endU, e]
theorem ist_none {w : Str} {a : U} {ws : List U} (hd : dctGet cKeys cVals (.inr w) = none) : callN N T k "is_term" [.tup (.str w :: a :: ws), c] S = .ok (.bl false) S := by
  rw [call_eq (by omega) E.istT rfl]
  have h2 : ¬ ((ws.length : Int) + 1 + 1) < 2 := by omega
  have e : item S (.tup (.str w :: a :: ws)) (.int 0) = some (.str w) := item_tup0 _ _ _
  simp [f_is_term, startU, tyIs, truth, len_tup, h2, endU, e, E.gc, kdt_notin, hd]
theorem ist_len {w : Str} {a : U} {ws : List U} {m : Int} (hd : dctGet cKeys cVals (.inr w) = some (.int m)) (hm : m ≠ (ws.length : Int) + 1 + 1) : callN N T k "is_term" [.tup (.str w :: a :: ws), c] S = .ok (.bl false) S := by
  rw [call_eq (by omega) E.istT rfl]
  have h2 : ¬ ((ws.length : Int) + 1 + 1) < 2 := by omega
  have e : item S (.tup (.str w :: a :: ws)) (.int 0) = some (.str w) := item_tup0 _ _ _
  simp [f_is_term, startU, tyIs, truth, len_tup, h2, endU, e, E.gc, kdt_notin, kdt_item, hd, hm]
theorem ist_two {w : Str} {a : U} (ha : flatU a = true) (hw : w = "one" ∨ w = "gone") : callN N T k "is_term" [.tup [.str w, a], c] S = .ok (.bl (numB a (-999) 999)) S := by
  rw [call_eq (by omega) E.istT rfl]
  have en := num_ok E.toENum (k := k - 1) (by omega) ha (-999) 999 S
  have e : item S (.tup [.str w, a]) (.int 0) = some (.str w) := item_tup0 _ _ _
  have hd : dctGet cKeys cVals (.inr w) = some (.int 2) := by
    rcases hw with rfl | rfl
    · exact c_one
    · exact c_gone
  have hi : cop .isin S (.str w) (.tup [.str "one", .str "gone"]) = some true := by
    rcases hw with rfl | rfl
    · exact it_one S
    · exact it_gone S
  cases hb : numB a (-999) 999 with
  | true => simp [f_is_term, startU, tyIs, truth, len_tup, endU, e, E.gc, kdt_notin, kdt_item, hd, E.gTimes, E.numH, en, hb, hi, big]
  | false => simp [f_is_term, startU, tyIs, truth, len_tup, endU, e, E.gc, kdt_notin, kdt_item, hd, E.gTimes, E.numH, en, hb, hi, big]
include hc hn
theorem ist_look {a nm r : U} (ha : flatU a = true) (hnm : flatU nm = true) (hr : flatU r = true) : callN N T k "is_term" [.tup [.str "look", a, nm, r], c] S = .ok (.bl (goodB names [.str "look", a, nm, r])) S := by
  rw [call_eq (by omega) E.istT rfl]
  have en := num_ok E.toENum (k := k - 1) (by omega) ha (-999) 999 S
  have er := num_ok E.toENum (k := k - 1) (by omega) hr (-1) 1 S
  have e : item S (.tup [.str "look", a, nm, r]) (.int 0) = some (.str "look") := rfl
  have e2 : item S (.lst [r]) (.int 0) = some r := rfl
  have em := notin_seq hc hnm hn S
  cases hb : numB a (-999) 999 <;> cases hm : memB nm names <;> simp [f_is_term, startU, tyIs, truth, len_tup, endU, e, e2, E.gc, kdt_notin, kdt_item, c_look, E.gTimes, E.numH, en, er, em, hm, hb, it_look, eq_look_look, big, goodB, Ne.symm ne1]
end
end
end Far.L

set_option Elab.async false
set_option linter.all false
set_option maxRecDepth 100000
set_option maxHeartbeats 4000000
namespace Far.L
open PySem PySem.Spec PyProof.Rows L2
section
variable {N : Cn} {T : Str → Option LFun}
section
variable (E : EIsT N T) {k : Nat} (hk : 2 ≤ k) {c : U} {names : List U} (hc : isSeq c names) (hn : ∀ w ∈ names, flatU w = true) (S : Sto)
include E hk hc hn
theorem ist_at {a nm r : U} (ha : flatU a = true) (hnm : flatU nm = true) (hr : flatU r = true) : callN N T k "is_term" [.tup [.str "at", a, nm, r], c] S = .ok (.bl (goodB names [.str "at", a, nm, r])) S := by
  rw [call_eq (by omega) E.istT rfl]
  have en := num_ok E.toENum (k := k - 1) (by omega) ha (-999) 999 S
  have er := num_ok E.toENum (k := k - 1) (by omega) hr 0 1000000000000000 S
  have e : item S (.tup [.str "at", a, nm, r]) (.int 0) = some (.str "at") := rfl
  have e2 : item S (.lst [r]) (.int 0) = some r := rfl
  have em := notin_seq hc hnm hn S
  cases hb : numB a (-999) 999 <;> cases hm : memB nm names <;> cases hd : numB r 0 1000000000000000 <;> simp [f_is_term, startU, tyIs, truth, len_tup, endU, e, e2, E.gc, kdt_notin, kdt_item, c_at, E.gTimes, E.gRow, E.numH, en, er, em, hm, hb, hd, it_at, eq_at_look, eq_at_at, big, goodB, ne1]
theorem ist_sum {a nm r s : U} (ha : flatU a = true) (hnm : flatU nm = true) (hr : flatU r = true) (hs : flatU s = true) : callN N T k "is_term" [.tup [.str "sum", a, nm, r, s], c] S = .ok (.bl (goodB names [.str "sum", a, nm, r, s])) S := by
  rw [call_eq (by omega) E.istT rfl]
  have en := num_ok E.toENum (k := k - 1) (by omega) ha (-999) 999 S
  have er := num_ok E.toENum (k := k - 1) (by omega) hr 0 1000000000000000 S
  have es := num_ok E.toENum (k := k - 1) (by omega) hs (-1) 1 S
  have e : item S (.tup [.str "sum", a, nm, r, s]) (.int 0) = some (.str "sum") := rfl
  have e2 : item S (.lst [r, s]) (.int 0) = some r := rfl
  have e3 : item S (.lst [r, s]) (.int 1) = some s := rfl
  have em := notin_seq hc hnm hn S
  cases hb : numB a (-999) 999 <;> cases hm : memB nm names <;> cases hd : numB r 0 1000000000000000 <;> simp [f_is_term, startU, tyIs, truth, len_tup, endU, e, e2, e3, E.gc, kdt_notin, kdt_item, c_sum, E.gTimes, E.gRow, E.numH, en, er, es, em, hm, hb, hd, it_sum, eq_sum_look, eq_sum_at, eq_sum_sum, big, goodB, Ne.symm ne6]
theorem ist_total {a nm r s : U} (ha : flatU a = true) (hnm : flatU nm = true) (hr : flatU r = true) (hs : flatU s = true) : callN N T k "is_term" [.tup [.str "total", a, nm, r, s], c] S = .ok (.bl (goodB names [.str "total", a, nm, r, s])) S := by
  rw [call_eq (by omega) E.istT rfl]
  have en := num_ok E.toENum (k := k - 1) (by omega) ha (-999) 999 S
  have er := num_ok E.toENum (k := k - 1) (by omega) hr 0 1000000000000000 S
  have es := num_ok E.toENum (k := k - 1) (by omega) hs (-1) 1000000000000000 S
  have e : item S (.tup [.str "total", a, nm, r, s]) (.int 0) = some (.str "total") := rfl
  have e2 : item S (.lst [r, s]) (.int 0) = some r := rfl
  have e3 : item S (.lst [r, s]) (.int 1) = some s := rfl
  have em := notin_seq hc hnm hn S
  cases hb : numB a (-999) 999 <;> cases hm : memB nm names <;> cases hd : numB r 0 1000000000000000 <;> simp [f_is_term, startU, tyIs, truth, len_tup, endU, e, e2, e3, E.gc, kdt_notin, kdt_item, c_total, E.gTimes, E.gRow, E.numH, en, er, es, em, hm, hb, hd, it_total, eq_total_look, eq_total_at, eq_total_sum, big, goodB, ne6]
end
/-- words that are none of these -/
theorem good_len {names : List U} {w : Str} {a : U} {ws : List U} {m : Int} (hd : dctGet cKeys cVals (.inr w) = some (.int m)) (hm : m ≠ (ws.length : Int) + 1 + 1) : goodB names (.str w :: a :: ws) = false := by
  have h1 : ∀ {x : Str} {j : Int}, dctGet cKeys cVals (.inr x) = some (.int j) → j ≠ m → ¬ w = x := fun {x j} e z q => by
    rw [q, e] at hd
    cases hd
    exact z rfl
  match ws, hm with
  | [], hm =>
    have a1 := h1 c_one (by simp at hm; omega)
    have a2 := h1 c_gone (by simp at hm; omega)
    simp [goodB, a1, a2]
  | [_], _ => simp [goodB]
  | [_, _], hm =>
    have a1 := h1 c_look (by simp at hm; omega)
    have a2 := h1 c_at (by simp at hm; omega)
    simp [goodB, a1, a2]
  | [_, _, _], hm =>
    have a1 := h1 c_sum (by simp at hm; omega)
    have a2 := h1 c_total (by simp at hm; omega)
    simp [goodB, a1, a2]
  | _ :: _ :: _ :: _ :: _, _ => simp [goodB]
theorem good_none {names : List U} {w : Str} {a : U} {ws : List U} (hd : dctGet cKeys cVals (.inr w) = none) : goodB names (.str w :: a :: ws) = false := by
  have h1 : ∀ {x : Str} {j : Int}, dctGet cKeys cVals (.inr x) = some (.int j) → ¬ w = x := fun {x j} e q => by
    rw [q, e] at hd
    cases hd
  match ws with
  | [] => simp [goodB, h1 c_one, h1 c_gone]
  | [_] => simp [goodB]
  | [_, _] => simp [goodB, h1 c_look, h1 c_at]
  | [_, _, _] => simp [goodB, h1 c_sum, h1 c_total]
  | _ :: _ :: _ :: _ :: _ => simp [goodB]
/-- a word and its count -/
theorem word_cases (w : Str) : (w = "one" ∨ w = "gone") ∨ w = "look" ∨ w = "at" ∨ w = "sum" ∨ w = "total" ∨ dctGet cKeys cVals (.inr w) = none := by
  by_cases h1 : w = "one"
  · exact .inl (.inl h1)
  by_cases h2 : w = "gone"
  · exact .inl (.inr h2)
  by_cases h3 : w = "look"
  · exact .inr (.inl h3)
  by_cases h4 : w = "at"
  · exact .inr (.inr (.inl h4))
  by_cases h5 : w = "sum"
  · exact .inr (.inr (.inr (.inl h5)))
  by_cases h6 : w = "total"
  · exact .inr (.inr (.inr (.inr (.inl h6))))
  · exact .inr (.inr (.inr (.inr (.inr (c_none h1 h3 h4 h5 h6 h2)))))
theorem ist_ok (E : EIsT N T) {k : Nat} (hk : 2 ≤ k) {c : U} {names : List U} (hc : isSeq c names) (hn : ∀ w ∈ names, flatU w = true) (S : Sto) {ws : List U} (hw : ∀ w ∈ ws, flatU w = true) : callN N T k "is_term" [.tup ws, c] S = .ok (.bl (goodB names ws)) S := by
  match ws, hw with
  | [], _ => rw [ist_short E hk S (by simp)]; rfl
  | [x], _ =>
    rw [ist_short E hk S (by simp)]
    cases x <;> rfl
  | x :: a :: rest, hw =>
    have fx := hw x (by simp)
    have fa := hw a (by simp)
    cases x with
    | int i => rw [ist_int E hk S]; rfl
    | non => rw [ist_non E hk S]; rfl
    | str w =>
      rcases word_cases w with h | rfl | rfl | rfl | rfl | h
      · match rest with
        | [] => rw [ist_two E hk S fa h]; simp [goodB, h]
        | y :: ys =>
          have hd : dctGet cKeys cVals (.inr w) = some (.int 2) := by
            rcases h with rfl | rfl
            · exact c_one
            · exact c_gone
          have hm : (2 : Int) ≠ ((y :: ys).length : Int) + 1 + 1 := by simp; omega
          rw [ist_len E hk S hd hm, good_len hd hm]
      · by_cases hm : (4 : Int) = (rest.length : Int) + 1 + 1
        · match rest, hm with
          | [nm, r], _ => exact ist_look E hk hc hn S fa (hw nm (by simp)) (hw r (by simp))
          | [], hm => simp at hm
          | [_], hm => simp at hm
          | _ :: _ :: _ :: _, hm => simp at hm; omega
        · rw [ist_len E hk S c_look hm, good_len c_look hm]
      · by_cases hm : (4 : Int) = (rest.length : Int) + 1 + 1
        · match rest, hm with
          | [nm, r], _ => exact ist_at E hk hc hn S fa (hw nm (by simp)) (hw r (by simp))
          | [], hm => simp at hm
          | [_], hm => simp at hm
          | _ :: _ :: _ :: _, hm => simp at hm; omega
        · rw [ist_len E hk S c_at hm, good_len c_at hm]
      · by_cases hm : (5 : Int) = (rest.length : Int) + 1 + 1
        · match rest, hm with
          | [nm, r, s], _ => exact ist_sum E hk hc hn S fa (hw nm (by simp)) (hw r (by simp)) (hw s (by simp))
          | [], hm => simp at hm
          | [_], hm => simp at hm
          | [_, _], hm => simp at hm
          | _ :: _ :: _ :: _ :: _, hm => simp at hm; omega
        · rw [ist_len E hk S c_sum hm, good_len c_sum hm]
      · by_cases hm : (5 : Int) = (rest.length : Int) + 1 + 1
        · match rest, hm with
          | [nm, r, s], _ => exact ist_total E hk hc hn S fa (hw nm (by simp)) (hw r (by simp)) (hw s (by simp))
          | [], hm => simp at hm
          | [_], hm => simp at hm
          | [_, _], hm => simp at hm
          | _ :: _ :: _ :: _ :: _, hm => simp at hm; omega
        · rw [ist_len E hk S c_total hm, good_len c_total hm]
      · rw [ist_none E hk S h, good_none h]
    | _ => cases fx
/-! ### a formula -/
/-- a term: a tuple of such -/
def termU : U → Bool
  | .tup ws => ws.all flatU
  | _ => false
def goodU (names : List U) : U → Bool
  | .tup ws => goodB names ws
  | _ => false
theorem termU_of {u : U} (h : termU u = true) : ∃ ws, u = .tup ws ∧ ∀ w ∈ ws, flatU w = true := by
  cases u with
  | tup ws => exact ⟨ws, rfl, List.all_eq_true.mp h⟩
  | _ => cases h
theorem need_ok (E : ENeed N T) {k : Nat} (hk : 3 ≤ k) {c : U} {names : List U} (hc : isSeq c names) (hn : ∀ w ∈ names, flatU w = true) (S : Sto) {fs : List U} (hf : ∀ u ∈ fs, termU u = true) (hl : fs.length ≤ 5) :
    callN N T k "need_formula" [.tup fs, c] S = if fs.all (goodU names) = true then .ok (.tup fs) S else .exc ⟨"BadFormula", [("word", .str "badformula")]⟩ S := by
  rw [call_eq (by omega) E.needT rfl]
  have h5 : ¬ (5 : Int) < (fs.length : Int) := by omega
  have hb : fs.length ≤ big := by simp [big]; omega
  have turn : ∀ u ∈ fs, lcTurn N (callN N T (k - 1)) [.val (.tup fs), .val c, .no] [2] (.nm 2) .non (.call "is_term" (.cons (.v 2) (.cons (.v 1) .nil))) u S = .ok (some (.bl (goodU names u))) S := fun u hu => by
    obtain ⟨ws, rfl, hw⟩ := termU_of (hf u hu)
    have e := ist_ok E.toEIsT (k := k - 1) (by omega) hc hn S hw
    simp [lcTurn, wipeS, E.istH, e, goodU]
  have lc := lc_map (fun u => .bl (goodU names u)) S fs [] turn
  cases hg : fs.all (goodU names) with
  | true => simp [f_need_formula, startU, tyIs, truth, len_tup, E.gTerms, h5, hb, lc, all_map, hg, endU]
  | false => simp [f_need_formula, startU, tyIs, truth, len_tup, E.gTerms, h5, hb, lc, all_map, hg, endU, E.xmB]
end
end Far.L

set_option Elab.async false
set_option linter.all false
set_option maxRecDepth 100000
set_option maxHeartbeats 4000000
namespace Far.L
open PySem PySem.Spec PyProof.Rows L2
theorem ne_bl (S : Sto) (a : Bool) : cop .ne S (.bl a) (.bl a) = some false := by cases a <;> kernel_rfl
theorem eq_bl (S : Sto) (a : Bool) : cop .eq S (.bl a) (.bl a) = some true := by cases a <;> kernel_rfl
theorem eqv_strs (x : Str) : PyData.eqv (.str x) (.str x) = true := by
  unfold PyData.eqv
  simp
theorem eq_str_self {x : Str} (h : flatU (.str x) = true) (S : Sto) : cop .eq S (.str x) (.str x) = some true := by
  have h' : SeqAt.shaped (.str x) = true := h
  show (if (SeqAt.shaped (.str x) && SeqAt.shaped (.str x)) = true then some (PyData.eqv (.str x) (.str x)) else none) = _
  rw [h', eqv_strs]
  rfl
theorem item_at (S : Sto) (us : List U) (j : Int) (h1 : 0 ≤ j) (h2 : j.toNat < us.length) : item S (.tup us) (.int j) = some us[j.toNat] := by
  rw [item_tup, atI_nn _ _ h1 (by omega), List.getElem?_eq_getElem h2]
section
variable {N : Cn} {T : Str → Option LFun}
theorem like_flat (E : ELike N T) {k : Nat} (hk : 1 ≤ k) {u : U} (hu : flatU u = true) (S : Sto) : callN N T k "_law_like" [u, u] S = .ok (.bl true) S := by
  rw [call_eq hk E.likeT rfl]
  cases u with
  | int i => simp [f_law_like, startU, tyIs, tyAny, truth, ne_bl, eq_bl, endU]
  | str x => simp [f_law_like, startU, tyIs, tyAny, truth, ne_bl, eq_bl, eq_str_self hu, endU]
  | non =>
    have en : cop .eq S .non .non = some true := by kernel_rfl
    simp [f_law_like, startU, tyIs, tyAny, truth, ne_bl, eq_bl, en, endU]
  | _ => cases hu
theorem like_seq (E : ELike N T) {k : Nat} (hk : 2 ≤ k) {us : List U} (hl : us.length < 100000) (S : Sto) (h : ∀ u ∈ us, callN N T (k - 1) "_law_like" [u, u] S = .ok (.bl true) S) : callN N T k "_law_like" [.tup us, .tup us] S = .ok (.bl true) S := by
  rw [call_eq (by omega) E.likeT rfl]
  have turn : ∀ u ∈ rangeU 0 us.length, lcTurn N (callN N T (k - 1)) [.val (.tup us), .val (.tup us), .no] [2] (.nm 2) .non (.call "_law_like" (.cons (.sub (.v 0) (.v 2)) (.cons (.sub (.v 1) (.v 2)) .nil))) u S = .ok (some (.bl ((fun _ => true) u))) S := fun u hu => by
    unfold rangeU at hu
    obtain ⟨j, hj, rfl⟩ := List.mem_map.mp hu
    have hj2 : j < us.length := by simpa using List.mem_range.mp hj
    have e1 : item S (.tup us) (.int (0 + (j : Int))) = some us[j] := by
      rw [item_at S us _ (by omega) (by simpa using hj2)]
      simp
    have e2 := h us[j] (List.getElem_mem _)
    simp only [Int.zero_add] at e1
    simp [lcTurn, wipeS, E.likeH, e1, e2]
  have lc := lc_map (fun u => .bl ((fun _ => true) u)) S (rangeU 0 us.length) [] turn
  have hr : (rangeU 0 us.length).length ≤ big := by
    simp [rangeU, big]; omega
  have h1 : (us.length : Int) < 100000 := by omega
  have h2 : (-100000000000000000 : Int) < us.length := by omega
  have ha := all_map S (fun _ => true) (rangeU 0 us.length)
  simp [f_law_like, startU, tyIs, tyAny, truth, ne_bl, eq_bl, len_tup, h1, h2, hr, endU, lc]
  rw [ha]
  simp
/-- a formula is like itself -/
theorem like_form (E : ELike N T) {k : Nat} (hk : 3 ≤ k) {fs : List U} (hf : ∀ u ∈ fs, termU u = true ∧ ∀ ws, u = .tup ws → ws.length < 100000) (hl : fs.length < 100000) (S : Sto) : callN N T k "_law_like" [.tup fs, .tup fs] S = .ok (.bl true) S := by
  refine like_seq E (by omega) hl S fun u hu => ?_
  obtain ⟨h1, h2⟩ := hf u hu
  obtain ⟨ws, rfl, hw⟩ := termU_of h1
  exact like_seq E (by omega) (h2 ws rfl) S fun v hv => like_flat E (by omega) (hw v hv) S
/-- a drawn formula -/
theorem form_ok (E : EForm N T) {k : Nat} (hk : 5 ≤ k) {o : SO} {R : Sto} (h : Bg o) {us : List U} (h1 : us ≠ []) (h2 : us.length < 100000) (h3 : ∀ u ∈ us, flatU u = true) {near : Int} (h4 : 0 < near) (h5 : near < 18446744073709551616) :
    ∃ fs o', callN N T k "_law_formula" [.ref 0, .lst us, .int near] (o :: R) = .ok (.tup fs) (o' :: R) ∧ (∀ f ∈ fs, termU f = true ∧ ∀ ws, f = .tup ws → ws.length ≤ 5) ∧ fs.length ≤ 3 ∧ Bg o' := by
  obtain ⟨u, o1, e1, m1, b1⟩ := of_ok E.toEOf (k := k - 1) (by omega) (R := R) h (us := [.int 1, .int 2, .int 1, .int 3, .int 0, .int 2]) (by simp) (by simp)
  have hu : ∃ j : Int, u = .int j ∧ 0 ≤ j ∧ j ≤ 3 := by
    simp only [List.mem_cons, List.not_mem_nil, or_false] at m1
    rcases m1 with h | h | h | h | h | h <;> exact ⟨_, h, by decide, by decide⟩
  obtain ⟨j, rfl, j0, j3⟩ := hu
  rw [call_eq (by omega) E.formT rfl]
  obtain ⟨ws, S2, e2, l2, p2, o2, rfl, b2⟩ := lc_inv (turn := lcTurn N (callN N T (k - 1)) [.val (.ref 0), .val (.lst us), .val (.int near), .no] [3] (.nm 3) .non (.call "_law_term" (.cons (.v 0) (.cons (.v 1) (.cons (.v 2) .nil))))) (fun S => ∃ o, S = o :: R ∧ Bg o) (fun f => termU f = true ∧ ∀ ws, f = .tup ws → ws.length ≤ 5) (rangeU 0 j) [] (o1 :: R) (fun x hx S hS => by
    obtain ⟨o, rfl, b⟩ := hS
    obtain ⟨ws, o', e, f, l, b'⟩ := term_ok E.toETerm (k := k - 1) (by omega) (R := R) b h1 h2 h3 h4 h5
    refine ⟨.tup ws, o' :: R, ?_, ⟨List.all_eq_true.mpr f, fun vs e => ?_⟩, o', rfl, b'⟩
    · simp [lcTurn, wipeS, E.termH, e]
    · cases e; exact l) ⟨o1, rfl, b1⟩
  have hr : (rangeU 0 j).length = j.toNat := by simp [rangeU]
  have hb : (rangeU 0 j).length ≤ big := by rw [hr]; simp [big]; omega
  refine ⟨ws, o2, ?_, p2, by rw [l2, hr]; omega, b2⟩
  have c1 : j < 100000 := by omega
  have c2 : (-100000000000000000 : Int) < j := by omega
  simp only [List.nil_append] at e2
  have et : fnc .tuple (o2 :: R) [.lst ws] = some (.val (.tup ws)) := rfl
  simp [f_law_formula, startU, E.ofH, e1, c1, c2, e2, et, endU, big]
  rw [if_pos (by simp [hr]; omega)]
  simp [et]
end
end Far.L

set_option Elab.async false
set_option linter.all false
set_option maxRecDepth 100000
set_option maxHeartbeats 4000000
/-! Texts as lists of signs: split, partition, startswith, endswith, join, slices. -/
namespace Far
open PySem L2 PySem.StrLaws PySem.Builtin PySem.Builtin.Str
/-- a text of signs -/
def sT (l : List Nat) : Str := ⟨l.toArray⟩
abbrev sL (x : Str) : List Nat := x.cps.toList
@[simp] theorem sL_sT (l : List Nat) : sL (sT l) = l := by simp [sT]
@[simp] theorem cps_sT (l : List Nat) : (sT l).cps = l.toArray := rfl
@[simp] theorem sT_sL (x : Str) : sT (sL x) = x := by cases x; simp [sT]
theorem sT_inj {a b : List Nat} (h : sT a = sT b) : a = b := by
  have := congrArg sL h
  simpa using this
@[simp] theorem sT_eq {a b : List Nat} : sT a = sT b ↔ a = b := ⟨sT_inj, fun h => by rw [h]⟩
@[simp] theorem len_sT (l : List Nat) : (sT l).length = l.length := by simp [sT, Str.length]
@[simp] theorem app_sT (a b : List Nat) : sT a ++ sT b = sT (a ++ b) := by
  show (⟨a.toArray ++ b.toArray⟩ : Str) = _
  simp [sT]
theorem len_sL (x : Str) : (sL x).length = x.length := by simp [Str.length]
/-- a written text's signs -/
theorem sT_lit {s : String} {l : List Nat} (h : (s.toList.map Char.toNat) = l) : (Str.ofString s) = sT l := by
  rw [Str.ofString_eq_toList, h]; rfl
/-! ### where a text stands in a text -/
theorem subAt_iff (x y : Str) (i : Nat) : subAt x y i = true ↔ ((sL x).drop i).take (sL y).length = sL y := by
  rw [subAt_eq]
  rw [beq_iff_eq, len_sL]
theorem pre_take {α : Type} [DecidableEq α] (a b : List α) : b.take a.length = a ↔ a <+: b := by
  constructor
  · intro h
    rw [← h]
    exact List.take_prefix _ _
  · intro h
    exact (List.prefix_iff_eq_take.mp h).symm
theorem at_iff (x y : Str) (i : Nat) (hy : 1 ≤ y.length) : At x y x.length i ↔ sL y <+: (sL x).drop i := by
  unfold At
  rw [subAt_iff, pre_take]
  constructor
  · exact fun h => h.2
  · intro h
    refine ⟨?_, h⟩
    have := h.length_le
    rw [List.length_drop, len_sL, len_sL] at this
    omega
/-- the first place -/
def findL (sep : List Nat) : List Nat → Option (List Nat × List Nat)
  | [] => none
  | c :: t => if sep.isPrefixOf (c :: t) = true then some ([], (c :: t).drop sep.length) else (findL sep t).map fun p => (c :: p.1, p.2)
theorem findL_none {sep : List Nat} (hs : sep ≠ []) : ∀ {l : List Nat}, findL sep l = none → ∀ i, ¬ sep <+: l.drop i
  | [], _, i => by
    simp
    exact hs
  | c :: t, h, i => by
    unfold findL at h
    split at h
    · cases h
    · rename_i h1
      cases i with
      | zero => simpa using h1
      | succ i => exact findL_none hs (Option.map_eq_none_iff.mp h) i
theorem findL_some {sep : List Nat} : ∀ {l a b : List Nat}, findL sep l = some (a, b) → l = a ++ sep ++ b ∧ ∀ k, k < a.length → ¬ sep <+: l.drop k
  | [], a, b, h => by cases h
  | c :: t, a, b, h => by
    unfold findL at h
    split at h
    · rename_i h1
      cases h
      refine ⟨?_, fun k hk => by simp at hk⟩
      obtain ⟨r, hr⟩ := List.isPrefixOf_iff_prefix.mp h1
      rw [← hr]
      simp
    · rename_i h1
      obtain ⟨⟨a', b'⟩, e, e2⟩ := Option.map_eq_some_iff.mp h
      cases e2
      obtain ⟨h2, h3⟩ := findL_some e
      refine ⟨by rw [h2]; simp, fun k hk => ?_⟩
      cases k with
      | zero => simpa using h1
      | succ k => exact h3 k (by simpa using hk)
theorem findL_of {sep : List Nat} : ∀ {a b : List Nat}, sep ≠ [] → (∀ k, k < a.length → ¬ sep <+: (a ++ sep ++ b).drop k) → findL sep (a ++ sep ++ b) = some (a, b)
  | [], b, hs, _ => by
    cases sep with
    | nil => exact absurd rfl hs
    | cons c r =>
      simp only [List.nil_append, List.cons_append]
      unfold findL
      rw [if_pos (by
        rw [List.isPrefixOf_iff_prefix]
        exact ⟨b, rfl⟩)]
      simp
  | c :: a, b, hs, h => by
    simp only [List.cons_append]
    unfold findL
    have h0 := h 0 (by simp)
    rw [if_neg (by
      rw [List.isPrefixOf_iff_prefix]
      simpa using h0)]
    have ih := findL_of (sep := sep) (a := a) (b := b) hs fun k hk => by
      have := h (k + 1) (by simpa using hk)
      simpa using this
    rw [ih]
    rfl
theorem strSub_sT (x : Str) (i j : Nat) : strSub x i j = sT (((sL x).take j).drop i) := by
  unfold strSub sT
  congr 1
  apply Array.toList_inj.mp
  simp [List.drop_take]
theorem sub_all (x : Str) : strSub x 0 x.length = x := by
  rw [strSub_sT, ← len_sL, List.take_length, List.drop_zero, sT_sL]
theorem part_eq (x y : Str) (hy : 1 ≤ y.length) : Txt.partition x y = match findL (sL y) (sL x) with
    | some (a, b) => (sT a, y, sT b)
    | none => (x, Str.empty, Str.empty) := by
  have hs : sL y ≠ [] := fun z => by
    have := len_sL y
    rw [z] at this
    simp at this
    omega
  unfold Txt.partition
  rcases occ_head x y 1 (Nat.le_refl _) with ⟨e, hn⟩ | ⟨i, r, e, h1, h2⟩
  · rw [e]
    cases hf : findL (sL y) (sL x) with
    | none => rfl
    | some p =>
      obtain ⟨a, b⟩ := p
      obtain ⟨h3, _⟩ := findL_some hf
      exfalso
      apply hn a.length
      rw [at_iff x y _ hy, h3]
      simp
  · rw [e]
    rw [at_iff x y _ hy] at h1
    cases hf : findL (sL y) (sL x) with
    | none => exact absurd h1 (findL_none hs hf i)
    | some p =>
      obtain ⟨a, b⟩ := p
      obtain ⟨h3, h4⟩ := findL_some hf
      have hi : i = a.length := by
        rcases Nat.lt_trichotomy i a.length with h | h | h
        · exact absurd h1 (h4 i h)
        · exact h
        · refine absurd ?_ (h2 a.length h)
          rw [at_iff x y _ hy, h3]
          simp
      subst hi
      show (strSub x 0 a.length, y, strSub x (a.length + y.length) x.length) = (sT a, y, sT b)
      rw [strSub_sT, strSub_sT, h3]
      have e1 : x.length = (a ++ sL y ++ b).length := by rw [← h3, len_sL]
      rw [e1, List.take_length, ← len_sL y]
      simp
theorem chain_uniq {x y : Str} {h : Nat} : ∀ {a : Nat} {c d : List Nat} {f g : Nat}, 1 ≤ y.length → ChainG x y h a c f → ChainG x y h a d g → (∀ k, f ≤ k → ¬ At x y h k) → (∀ k, g ≤ k → ¬ At x y h k) → c = d
  | a, [], [], f, g, hy, h1, h2, hf, hg => rfl
  | a, [], d :: ds, f, g, hy, h1, h2, hf, hg => by
    have e : f = a := h1
    exact absurd h2.2.1 (hf d (by rw [e]; exact h2.1))
  | a, c :: cs, [], f, g, hy, h1, h2, hf, hg => by
    have e : g = a := h2
    exact absurd h1.2.1 (hg c (by rw [e]; exact h1.1))
  | a, c :: cs, d :: ds, f, g, hy, h1, h2, hf, hg => by
    obtain ⟨p1, p2, p3, p4⟩ := h1
    obtain ⟨q1, q2, q3, q4⟩ := h2
    have e : c = d := by
      rcases Nat.lt_trichotomy c d with z | z | z
      · exact absurd p2 (q3 c p1 z)
      · exact z
      · exact absurd q2 (p3 d q1 z)
    subst e
    rw [chain_uniq hy p4 q4 hf hg]
theorem chain_shift {x z y : Str} {n : Nat} (hx : (sL x).drop n = sL z) (hy : 1 ≤ y.length) : ∀ {a f : Nat} {c : List Nat}, ChainG x y x.length (a + n) c f → ∃ d g, c = d.map (· + n) ∧ f = g + n ∧ ChainG z y z.length a d g
  | a, f, [], h => ⟨[], a, rfl, h, rfl⟩
  | a, f, c :: cs, h => by
    obtain ⟨p1, p2, p3, p4⟩ := h
    obtain ⟨b, rfl⟩ : ∃ b, c = b + n := ⟨c - n, by omega⟩
    have key : ∀ k, At x y x.length (k + n) ↔ At z y z.length k := fun k => by
      rw [at_iff _ _ _ hy, at_iff _ _ _ hy, ← hx, List.drop_drop, Nat.add_comm n k]
    have e : b + n + y.length = (b + y.length) + n := by omega
    rw [e] at p4
    obtain ⟨d, g, e1, e2, h2⟩ := chain_shift hx hy p4
    refine ⟨b :: d, g, by rw [e1]; rfl, e2, by omega, (key b).mp p2, fun k k1 k2 => ?_, h2⟩
    rw [← key]
    exact p3 (k + n) (by omega) (by omega)
theorem parts_shift {x z : Str} {n w : Nat} (hx : (sL x).drop n = sL z) (hn : n ≤ x.length) : ∀ {d : List Nat} {a : Nat}, partsFrom x w (a + n) (d.map (· + n)) = partsFrom z w a d
  | [], a => by
    show [strSub x (a + n) x.length] = [strSub z a z.length]
    rw [strSub_sT, strSub_sT, ← len_sL x, ← len_sL z, List.take_length, List.take_length, ← hx, List.drop_drop, Nat.add_comm n a]
  | d :: ds, a => by
    show strSub x (a + n) (d + n) :: partsFrom x w (d + n + w) _ = strSub z a d :: partsFrom z w (d + w) ds
    have e : d + n + w = d + w + n := by omega
    rw [e, parts_shift hx hn, strSub_sT, strSub_sT, ← hx]
    have e2 : List.drop (a + n) (List.take (d + n) (sL x)) = List.drop a (List.take d (List.drop n (sL x))) := by
      rw [List.drop_take, List.drop_take, List.drop_drop, Nat.add_comm n a]
      congr 1
      omega
    rw [e2]
theorem split_eq (x y : Str) (hy : 1 ≤ y.length) (hk : Str.strKind y = 1) : Txt.split x y = match findL (sL y) (sL x) with
    | some (a, b) => sT a :: Txt.split (sT b) y
    | none => [x] := by
  have hs : sL y ≠ [] := fun z => by
    have := len_sL y
    rw [z] at this
    simp at this
    omega
  have k1 : ∀ z : Str, ¬ Str.strKind z < Str.strKind y := fun z => by
    rw [hk]
    unfold Str.strKind
    split
    · omega
    · split <;> omega
  have main : ∀ z : Str, Txt.split z y = partsBetween z (occurrences z y 0 z.length (z.length + 1)) y.length := fun z => by
    unfold Txt.split
    have nil1 : occurrences z y 0 z.length (z.length + 1) = [] → [z] = partsBetween z (occurrences z y 0 z.length (z.length + 1)) y.length := fun e => by
      rw [e, partsBetween_eq]
      show [z] = [strSub z 0 z.length]
      rw [sub_all]
    split
    · rename_i c
      simp only [Bool.or_eq_true, decide_eq_true_eq] at c
      rcases c with c | c
      · apply nil1
        rcases occ_head z y (z.length + 1) (by omega) with ⟨e, _⟩ | ⟨i, r, e, h1, _⟩
        · exact e
        · have := h1.1
          omega
      · exact absurd c (k1 z)
    · split
      · rename_i c
        exact nil1 (by simpa using c)
      · rfl
  rw [main]
  obtain ⟨f, c1, c2⟩ := occ_tight x y hy
  cases hf : findL (sL y) (sL x) with
  | none =>
    rcases occ_head x y (x.length + 1) (by omega) with ⟨e, _⟩ | ⟨i, r, e, h1, _⟩
    · rw [e, partsBetween_eq]
      show [strSub x 0 x.length] = [x]
      rw [sub_all]
    · rw [at_iff x y _ hy] at h1
      exact absurd h1 (findL_none hs hf i)
  | some p =>
    obtain ⟨a, b⟩ := p
    obtain ⟨h3, h4⟩ := findL_some hf
    have lx : x.length = a.length + y.length + b.length := by
      rw [← len_sL x, h3, ← len_sL y]
      simp only [List.length_append]
    rcases occ_head x y (x.length + 1) (by omega) with ⟨e, hn⟩ | ⟨i, r, e, h1, h2⟩
    · exfalso
      apply hn a.length
      rw [at_iff x y _ hy, h3]
      simp
    · have h1' := h1
      rw [at_iff x y _ hy] at h1
      have hi : i = a.length := by
        rcases Nat.lt_trichotomy i a.length with h | h | h
        · exact absurd h1 (h4 i h)
        · exact h
        · refine absurd ?_ (h2 a.length h)
          rw [at_iff x y _ hy, h3]
          simp
      subst hi
      rw [e] at c1 ⊢
      obtain ⟨q1, q2, q3, q4⟩ := c1
      have hd : (sL x).drop (a.length + y.length) = sL (sT b) := by
        rw [h3, ← len_sL y]
        simp
      have q5 : ChainG x y x.length (0 + (a.length + y.length)) r f := by rw [Nat.zero_add]; exact q4
      obtain ⟨d, g, e1, e2, h5⟩ := chain_shift hd hy q5
      obtain ⟨f', c1', c2'⟩ := occ_tight (sT b) y hy
      have hu := chain_uniq hy h5 c1' (fun k hk hA => by
        refine c2 (k + (a.length + y.length)) (by omega) ?_
        rw [at_iff _ _ _ hy] at hA ⊢
        rw [← hd, List.drop_drop] at hA
        rw [Nat.add_comm]
        exact hA) c2'
      show partsBetween x (a.length :: r) y.length = sT a :: Txt.split (sT b) y
      rw [main (sT b), partsBetween_eq, partsBetween_eq, ← hu, e1]
      show strSub x 0 a.length :: partsFrom x y.length (a.length + y.length) (d.map (· + (a.length + y.length))) = _
      have e3 := parts_shift (w := y.length) hd (by omega) (d := d) (a := 0)
      rw [Nat.zero_add] at e3
      rw [e3, strSub_sT, h3]
      simp
end Far

set_option Elab.async false
set_option linter.all false
set_option maxRecDepth 100000
set_option maxHeartbeats 4000000
/-! The evaluator's primitives on texts that are lists of signs. -/
namespace Far
open PySem L2 PySem.StrLaws PySem.Builtin PySem.Builtin.Str
/-- signs that a text may have -/
def okL (l : List Nat) : Bool := l.all (· < 1114112)
@[simp] theorem okL_nil : okL [] = true := rfl
@[simp] theorem okL_cons (c : Nat) (l : List Nat) : okL (c :: l) = (decide (c < 1114112) && okL l) := rfl
@[simp] theorem okL_app (a b : List Nat) : okL (a ++ b) = (okL a && okL b) := by simp [okL]
theorem okL_of {a b : List Nat} (h : okL b = true) (s : ∀ c ∈ a, c ∈ b) : okL a = true := by
  unfold okL at h ⊢
  rw [List.all_eq_true] at h ⊢
  exact fun c hc => h c (s c hc)
theorem okL_drop {a : List Nat} (n : Nat) (h : okL a = true) : okL (a.drop n) = true := okL_of h fun _ hc => List.mem_of_mem_drop hc
theorem okL_take {a : List Nat} (n : Nat) (h : okL a = true) : okL (a.take n) = true := okL_of h fun _ hc => List.mem_of_mem_take hc
theorem shaped_sT {l : List Nat} (h : okL l = true) : SeqAt.shaped (.str (sT l)) = true := by
  show (PyData.canLay0 (.str (sT l)) && decide (PyData.depth (.str (sT l)) ≤ 64)) = true
  have e : PyData.canLay0 (.str (sT l)) = PySem.PyData.strOk (sT l) := by
    unfold PyData.canLay0
    rfl
  rw [e]
  have e2 : PySem.PyData.strOk (sT l) = true := by
    unfold PySem.PyData.strOk
    simp only [cps_sT, List.all_toArray]
    exact h
  rw [e2]
  rfl
theorem eqv_sT (a b : List Nat) : PyData.eqv (.str (sT a)) (.str (sT b)) = decide (a = b) := by
  unfold PyData.eqv
  by_cases h : a = b
  · subst h; simp
  · rw [decide_eq_false h]
    exact beq_eq_false_iff_ne.mpr fun e => h (sT_inj e)
theorem eq_sT {a b : List Nat} (ha : okL a = true) (hb : okL b = true) (S : Sto) : cop .eq S (.str (sT a)) (.str (sT b)) = some (decide (a = b)) := by
  show (if (SeqAt.shaped (.str (sT a)) && SeqAt.shaped (.str (sT b))) = true then some (PyData.eqv (.str (sT a)) (.str (sT b))) else none) = _
  rw [shaped_sT ha, shaped_sT hb, eqv_sT]
  rfl
theorem ne_sT {a b : List Nat} (ha : okL a = true) (hb : okL b = true) (S : Sto) : cop .ne S (.str (sT a)) (.str (sT b)) = some (!decide (a = b)) := by
  show (cop .eq S (.str (sT a)) (.str (sT b))).map (!·) = _
  rw [eq_sT ha hb]
  rfl
/-! ### methods -/
theorem starts_sT (a b : List Nat) : met .starts (.str (sT a)) (.str (sT b)) = some (.val (.bl (b.isPrefixOf a))) := by
  show some (PR.val (.bl (Txt.startswith (sT a) (sT b)))) = _
  congr 3
  unfold Txt.startswith
  rw [Bool.eq_iff_iff, List.isPrefixOf_iff_prefix, Bool.and_eq_true, subAt_iff, decide_eq_true_eq]
  simp only [sL_sT, len_sT, List.drop_zero, Nat.zero_add]
  rw [pre_take]
  exact ⟨fun h => h.2, fun h => ⟨h.length_le, h⟩⟩
theorem ends_sT (a b : List Nat) : met .ends (.str (sT a)) (.str (sT b)) = some (.val (.bl (b.isSuffixOf a))) := by
  show some (PR.val (.bl (Txt.endswith (sT a) (sT b)))) = _
  congr 3
  unfold Txt.endswith
  rw [Bool.eq_iff_iff, List.isSuffixOf_iff_suffix, Bool.and_eq_true, subAt_iff, decide_eq_true_eq]
  simp only [sL_sT, len_sT, Nat.zero_add]
  constructor
  · rintro ⟨h1, h2⟩
    have e : (a.drop (a.length - b.length)).length = b.length := by simp; omega
    rw [List.take_of_length_le (Nat.le_of_eq e)] at h2
    rw [← h2]
    exact List.drop_suffix _ _
  · intro h
    refine ⟨h.length_le, ?_⟩
    rw [← List.suffix_iff_eq_drop.mp h, List.take_length]
theorem part_sT {a b : List Nat} (hb : b ≠ []) (ha : a.length ≤ big) : met .part (.str (sT a)) (.str (sT b)) = some (.val (match findL b a with
    | some (p, q) => .tup [.str (sT p), .str (sT b), .str (sT q)]
    | none => .tup [.str (sT a), .str (sT []), .str (sT [])])) := by
  have l1 : 1 ≤ (sT b).length := by
    rw [len_sT]
    exact List.length_pos_iff.mpr hb
  show (if ((sT b).length == 0) = false ∧ (sT a).length ≤ big then _ else none) = _
  rw [if_pos ⟨by simpa using hb, by simpa using ha⟩, part_eq _ _ l1]
  simp only [sL_sT]
  cases findL b a with
  | none => rfl
  | some p => rfl
theorem split_sT {a b : List Nat} (hb : b ≠ []) (ha : a.length + 2 ≤ big) : met .split (.str (sT a)) (.str (sT b)) = some (.newL ((Txt.split (sT a) (sT b)).map .str)) := by
  show (if ((sT b).length == 0) = false ∧ (sT a).length + 2 ≤ big then _ else none) = _
  rw [if_pos ⟨by simpa using hb, by simpa using ha⟩]
/-! ### slices -/
theorem cutS_sT (l : List Nat) (lo hi : Option Int) : cutS (sT l) lo hi = sT ((l.drop (HT.sIx l.length 0 lo)).take (HT.sIx l.length l.length hi - HT.sIx l.length 0 lo)) := by
  unfold cutS
  simp [sT, Str.length]
theorem cut_from {l : List Nat} (S : Sto) (hl : l.length ≤ big) (n : Nat) : cut S (.str (sT l)) (some (n : Nat)) none = some (.val (.str (sT (l.drop n)))) := by
  show (if (sT l).length ≤ big then some (PR.val (.str (cutS (sT l) (some (n : Nat)) none))) else none) = _
  rw [if_pos (by simpa using hl), cutS_sT]
  congr 4
  have e1 : HT.sIx l.length 0 (some ((n : Nat) : Int)) = min n l.length := by
    unfold HT.sIx
    simp only
    rw [if_neg (by omega)]
    simp
  have e2 : HT.sIx l.length l.length none = l.length := rfl
  rw [e1, e2]
  by_cases h : n ≤ l.length
  · rw [Nat.min_eq_left h, List.take_of_length_le (by simp)]
  · rw [Nat.min_eq_right (by omega), Nat.sub_self, List.take_zero, List.drop_eq_nil_of_le (by omega)]
theorem cut_to {l : List Nat} (S : Sto) (hl : l.length ≤ big) (n : Nat) : cut S (.str (sT l)) none (some (n : Nat)) = some (.val (.str (sT (l.take n)))) := by
  show (if (sT l).length ≤ big then some (PR.val (.str (cutS (sT l) none (some (n : Nat))))) else none) = _
  rw [if_pos (by simpa using hl), cutS_sT]
  congr 4
  have e1 : HT.sIx l.length l.length (some ((n : Nat) : Int)) = min n l.length := by
    unfold HT.sIx
    simp only
    rw [if_neg (by omega)]
    simp
  have e2 : HT.sIx l.length 0 none = 0 := rfl
  rw [e1, e2]
  simp
/-- x[1:-1] -/
theorem cut_in {l : List Nat} (S : Sto) (hl : l.length ≤ big) : cut S (.str (sT l)) (some 1) (some (-1)) = some (.val (.str (sT ((l.drop 1).dropLast)))) := by
  show (if (sT l).length ≤ big then some (PR.val (.str (cutS (sT l) (some 1) (some (-1))))) else none) = _
  rw [if_pos (by simpa using hl), cutS_sT]
  congr 4
  have e1 : HT.sIx l.length l.length (some (-1)) = l.length - 1 := by
    unfold HT.sIx
    simp only
    rw [if_pos (by omega)]
    omega
  have e2 : HT.sIx l.length 0 (some 1) = min 1 l.length := by
    unfold HT.sIx
    simp only
    rw [if_neg (by omega)]
    rfl
  rw [e1, e2, List.dropLast_eq_take]
  cases l with
  | nil => rfl
  | cons c t => simp
/-! ### signs -/
theorem signs_sT (l : List Nat) : signsU (sT l) = l.map fun c => .str (sT [c]) := by
  unfold signsU
  simp [sT]
theorem isin_sT (S : Sto) (c : Nat) (l : List Nat) : cop .isin S (.str (sT [c])) (.str (sT l)) = some (decide (c ∈ l)) := by
  show (signOf (sT [c])).map (fun n => decide (n ∈ (sT l).cps.toList)) = _
  have e : signOf (sT [c]) = some c := by simp [signOf, sT]
  rw [e]
  show some (decide (c ∈ (sT l).cps.toList)) = _
  congr 1
theorem len_sTu (S : Sto) {l : List Nat} (h : l.length ≤ big) : fnc .len S [.str (sT l)] = some (.val (.int l.length)) := by
  show (if (sT l).length ≤ big then _ else none) = _
  rw [if_pos (by simpa using h)]
  simp
theorem add_sT (S : Sto) {a b : List Nat} (h : a.length + b.length ≤ big) : bop .add S (.str (sT a)) (.str (sT b)) = some (.val (.str (sT (a ++ b)))) := by
  show (if (sT a).length + (sT b).length ≤ big then _ else none) = _
  rw [if_pos (by simpa using h), app_sT]
/-! ### numbers as texts -/
def digL (n : Nat) : List Nat := (Nat.toDigits 10 n).map Char.toNat
def numL (i : Int) : List Nat := if i < 0 then 45 :: digL i.natAbs else digL i.natAbs
theorem str_num (i : Int) : Str.ofString (toString i) = sT (numL i) := by
  rw [Str.ofString_eq_toList]
  unfold numL sT digL
  congr 2
  cases i with
  | ofNat n =>
    rw [if_neg (by simp)]
    show (Nat.repr n).toList.map Char.toNat = _
    simp [Nat.repr]
  | negSucc n =>
    rw [if_pos (by omega)]
    have e : toString (Int.negSucc n) = "-" ++ Nat.repr (n + 1) := rfl
    rw [e]
    simp [Nat.repr]
theorem str_u (S : Sto) {i : Int} (h : i.natAbs.log2 < 1920) : fnc .str S [.int i] = some (.val (.str (sT (numL i)))) := by
  show (if i.natAbs.log2 < 1920 then some (PR.val (.str (Str.ofString (toString i)))) else none) = _
  rw [if_pos h, str_num]
theorem fmt_u {i : Int} (h : i.natAbs.log2 < 1920) : fmtU (.int i) = some (.str (sT (numL i))) := by
  show (if i.natAbs.log2 < 1920 then some (U.str (Str.ofString (toString i))) else none) = _
  rw [if_pos h, str_num]
theorem fmt_s {l : List Nat} (h : l.length ≤ big) : fmtU (.str (sT l)) = some (.str (sT l)) := by
  show (if (sT l).length ≤ big then some (U.str (sT l)) else none) = _
  rw [if_pos (by simpa using h)]
theorem int_u (S : Sto) {l : List Nat} {n : Int} (h : l.length ≤ 640) (e : PySem.intText? (sT l) = some n) : fnc .int S [.str (sT l)] = some (.val (.int n)) := by
  show (if (sT l).length ≤ 640 then _ else none) = _
  rw [if_pos (by simpa using h), e]
  rfl
end Far

set_option Elab.async false
set_option linter.all false
set_option maxRecDepth 100000
set_option maxHeartbeats 4000000
/-! Numbers that are written. -/
namespace Far
open PySem L2 PySem.StrLaws PySem.Builtin PySem.Builtin.Str
def allDig (l : List Nat) : Bool := l.all fun c => decide (48 ≤ c) && decide (c ≤ 57)
theorem allDig_iff {l : List Nat} : allDig l = true ↔ ∀ c ∈ l, 48 ≤ c ∧ c ≤ 57 := by
  unfold allDig
  rw [List.all_eq_true]
  simp
def valL (l : List Nat) : Nat := l.foldl (fun acc c => acc * 10 + (c - 48)) 0
theorem digit_chars : ∀ d : Nat, d < 10 → 48 ≤ (Nat.digitChar d).toNat ∧ (Nat.digitChar d).toNat ≤ 57 := by decide
theorem digL_dig (n : Nat) : allDig (digL n) = true := by
  rw [allDig_iff]
  intro c hc
  obtain ⟨d, hd, rfl⟩ := List.mem_map.mp hc
  have := Nat.isDigit_of_mem_toDigits (b := 10) (by decide) (by decide) hd
  simp only [Char.isDigit, Bool.and_eq_true, decide_eq_true_eq] at this
  exact this
theorem digL_ne (n : Nat) : digL n ≠ [] := by
  unfold digL
  simp
theorem valL_digL (n : Nat) : valL (digL n) = n := PySem.W.KIN.val_back n
theorem digL_len : ∀ (k n : Nat), n < 10 ^ (k + 1) → (digL n).length ≤ k + 1
  | k, n, h => by
    by_cases h10 : n < 10
    · unfold digL
      rw [Nat.toDigits_of_lt_base h10]
      simp
    · cases k with
      | zero => omega
      | succ k =>
        have hm : n % 10 < 10 := Nat.mod_lt n (by decide)
        have t : Nat.toDigits 10 (n / 10) ++ Nat.toDigits 10 (n % 10) = Nat.toDigits 10 (10 * (n / 10) + n % 10) := Nat.toDigits_append_toDigits (by decide) (by omega) hm
        rw [Nat.div_add_mod] at t
        have ih := digL_len k (n / 10) (by
          rw [Nat.div_lt_iff_lt_mul (by decide)]
          rw [Nat.pow_succ] at h
          exact h)
        unfold digL at ih ⊢
        rw [← t, Nat.toDigits_of_lt_base hm]
        simp at ih ⊢
        omega
theorem valL_lt : ∀ (l : List Nat), allDig l = true → valL l < 10 ^ l.length := by
  intro l
  have key : ∀ (l : List Nat) (a : Nat), (∀ c ∈ l, 48 ≤ c ∧ c ≤ 57) → l.foldl (fun acc c => acc * 10 + (c - 48)) a < (a + 1) * 10 ^ l.length := by
    intro l
    induction l with
    | nil => intro a _; simp
    | cons c t ih =>
      intro a h
      have hc := h c (by simp)
      have := ih (a * 10 + (c - 48)) (fun d hd => h d (by simp [hd]))
      simp only [List.foldl_cons, List.length_cons]
      refine Nat.lt_of_lt_of_le this ?_
      rw [Nat.pow_succ]
      have e : a * 10 + (c - 48) + 1 ≤ (a + 1) * 10 := by omega
      calc (a * 10 + (c - 48) + 1) * 10 ^ t.length ≤ (a + 1) * 10 * 10 ^ t.length := Nat.mul_le_mul_right _ e
        _ = (a + 1) * (10 ^ t.length * 10) := by rw [Nat.mul_assoc, Nat.mul_comm 10]
  intro h
  have := key l 0 (allDig_iff.mp h)
  simpa [valL] using this
def neg? (l : List Nat) : Bool := [45].isPrefixOf l
def plainOf (l : List Nat) : List Nat := if neg? l = true then l.drop 1 else l
/-- the number that a text writes -/
def numIn (l : List Nat) : Option Int :=
  if 1 ≤ (plainOf l).length ∧ (plainOf l).length ≤ 16 ∧ allDig (plainOf l) = true then
    (if plainOf l = digL (valL (plainOf l)) ∧ l ≠ [45, 48] then some (if neg? l = true then -(valL (plainOf l) : Nat) else (valL (plainOf l) : Nat)) else none)
  else none
theorem neg_iff {l : List Nat} : neg? l = true ↔ ∃ t, l = 45 :: t := by
  unfold neg?
  rw [List.isPrefixOf_iff_prefix]
  constructor
  · rintro ⟨t, rfl⟩; exact ⟨t, rfl⟩
  · rintro ⟨t, rfl⟩; exact ⟨t, rfl⟩
theorem dig_neg {l : List Nat} (h : allDig l = true) : neg? l = false := by
  cases e : neg? l with
  | false => rfl
  | true =>
    obtain ⟨t, rfl⟩ := neg_iff.mp e
    have := allDig_iff.mp h 45 (by simp)
    omega
theorem numIn_num {i : Int} (h : i.natAbs < 10 ^ 16) : numIn (numL i) = some i := by
  have l1 := digL_len 15 i.natAbs h
  have l0 : 1 ≤ (digL i.natAbs).length := List.length_pos_iff.mpr (digL_ne _)
  by_cases hi : i < 0
  · have e : numL i = 45 :: digL i.natAbs := by unfold numL; rw [if_pos hi]
    have en : neg? (45 :: digL i.natAbs) = true := neg_iff.mpr ⟨_, rfl⟩
    have ep : plainOf (45 :: digL i.natAbs) = digL i.natAbs := by unfold plainOf; rw [if_pos en]; rfl
    rw [e]
    unfold numIn
    rw [ep, en, valL_digL, if_pos ⟨l0, l1, digL_dig _⟩, if_pos]
    · simp
      omega
    · refine ⟨rfl, fun z => ?_⟩
      have z2 : digL i.natAbs = [48] := by simpa using z
      have := valL_digL i.natAbs
      rw [z2] at this
      have e0 : valL [48] = 0 := rfl
      omega
  · have e : numL i = digL i.natAbs := by unfold numL; rw [if_neg hi]
    have en := dig_neg (digL_dig i.natAbs)
    have ep : plainOf (digL i.natAbs) = digL i.natAbs := by unfold plainOf; rw [en]; rfl
    rw [e]
    unfold numIn
    rw [ep, en, valL_digL, if_pos ⟨l0, l1, digL_dig _⟩, if_pos]
    · simp
      omega
    · refine ⟨rfl, fun z => ?_⟩
      rw [z] at en
      cases en
theorem numIn_some {l : List Nat} {i : Int} (h : numIn l = some i) : l = numL i ∧ i.natAbs < 10 ^ 16 := by
  unfold numIn at h
  split at h
  · rename_i c
    obtain ⟨c1, c2, c3⟩ := c
    split at h
    · rename_i d
      obtain ⟨d1, d2⟩ := d
      have hv := valL_lt _ c3
      have hv2 : valL (plainOf l) < 10 ^ 16 := Nat.lt_of_lt_of_le hv (Nat.pow_le_pow_right (by decide) c2)
      cases en : neg? l with
      | true =>
        rw [en] at h
        simp only [if_true, Option.some.injEq] at h
        obtain ⟨t, rfl⟩ := neg_iff.mp en
        have ep : plainOf (45 :: t) = t := by unfold plainOf; rw [if_pos en]; rfl
        rw [ep] at h hv2 d1
        have hn : i.natAbs = valL t := by omega
        refine ⟨?_, by rw [hn]; exact hv2⟩
        unfold numL
        have hneg : i < 0 := by
          rcases Nat.eq_zero_or_pos (valL t) with z | z
          · exfalso
            rw [z] at d1
            have e0 : digL 0 = [48] := by decide
            rw [e0] at d1
            exact d2 (by rw [d1])
          · omega
        rw [if_pos hneg, hn, ← d1]
      | false =>
        rw [en] at h
        simp at h
        have ep : plainOf l = l := by unfold plainOf; rw [en]; rfl
        rw [ep] at h hv2 d1
        have hn : i.natAbs = valL l := by omega
        refine ⟨?_, by rw [hn]; exact hv2⟩
        unfold numL
        rw [if_neg (by omega), hn, ← d1]
    · cases h
  · cases h
theorem numL_ok (i : Int) : ∀ c ∈ numL i, c = 45 ∨ (48 ≤ c ∧ c ≤ 57) := by
  intro c hc
  have hd := allDig_iff.mp (digL_dig i.natAbs)
  unfold numL at hc
  split at hc
  · rcases List.mem_cons.mp hc with h | h
    · exact .inl h
    · exact .inr (hd c h)
  · exact .inr (hd c hc)
theorem numL_okL (i : Int) : okL (numL i) = true := by
  unfold okL
  rw [List.all_eq_true]
  intro c hc
  rcases numL_ok i c hc with h | h <;> simp <;> omega
theorem numL_len {i : Int} (h : i.natAbs < 10 ^ 16) : (numL i).length ≤ 17 := by
  have l1 := digL_len 15 i.natAbs h
  unfold numL
  split <;> simp <;> omega
theorem numL_ne (i : Int) : numL i ≠ [] := by
  unfold numL
  split
  · simp
  · exact digL_ne _
/-- int() of a written number -/
theorem int_dig {l : List Nat} (h : allDig l = true) (h1 : l ≠ []) (h2 : l.length ≤ 640) : PySem.intText? (sT l) = some ((valL l : Nat) : Int) := by
  have := PySem.intText_digits (x := sT l) (by rw [show (sT l).cps.toList = l from by simp [sT]]; exact allDig_iff.mp h) (by simpa [sT] using h1) (by rw [len_sT]; omega)
  rw [show (sT l).cps.toList = l from by simp [sT]] at this
  exact this
theorem int_neg {l : List Nat} (h : allDig l = true) (h1 : l ≠ []) (h2 : l.length ≤ 640) : PySem.intText? (sT (45 :: l)) = some (-((valL l : Nat) : Int)) := by
  exact PySem.intText_neg (x := sT (45 :: l)) (cs := l) (by simp [sT]) (allDig_iff.mp h) h1 (by rw [len_sT]; simp; omega)
end Far

set_option Elab.async false
set_option linter.all false
set_option maxRecDepth 100000
set_option maxHeartbeats 4000000
/-! Formulas as texts: the functions. -/
namespace Far.L
open PySem PySem.Spec PyProof.Rows L2
def f_term_text : LFun := ⟨["term"], ["term", "head", "end", "word", "much", "name", "more", "rows"], (.cons (.asg (.st [3, 4] 6) (.v 0))
  (.cons (.ite (.cmp .eq (.v 3) (.c (.str "one"))) (.cons (.ret (.fn .str (.v 4)))
    .nil) .nil)
  (.cons (.asg (.nm 1) (.ite (.cmp .eq (.v 4) (.c (.int 1))) (.c (.str "")) (.fs (.cons (.fv (.v 4)) (.cons (.c (.str "*")) .nil)))))
  (.cons (.ite (.cmp .eq (.v 3) (.c (.str "gone"))) (.cons (.ret (.op .add (.v 1) (.c (.str "gone"))))
    .nil) .nil)
  (.cons (.asg (.st [5] 7) (.v 6))
  (.cons (.ite (.cmp .eq (.v 3) (.c (.str "look"))) (.cons (.ret (.op .add (.v 1) (.ite (.cmp .eq (.sub (.v 7) (.c (.int 0))) (.c (.int 0))) (.v 5) (.fs (.cons (.fv (.v 5)) (.cons (.c (.str "[")) (.cons (.fv (.sub (.v 7) (.c (.int 0)))) (.cons (.c (.str "]")) .nil))))))))
    .nil) .nil)
  (.cons (.ite (.cmp .eq (.v 3) (.c (.str "at"))) (.cons (.ret (.fs (.cons (.fv (.v 1)) (.cons (.fv (.v 5)) (.cons (.c (.str "@")) (.cons (.fv (.sub (.v 7) (.c (.int 0)))) .nil))))))
    .nil) .nil)
  (.cons (.asg (.nm 2) (.ite (.cmp .eq (.v 3) (.c (.str "sum"))) (.fs (.cons (.c (.str "[")) (.cons (.fv (.sub (.v 7) (.c (.int 1)))) (.cons (.c (.str "]")) .nil)))) (.fn .str (.sub (.v 7) (.c (.int 1))))))
  (.cons (.ret (.fs (.cons (.fv (.v 1)) (.cons (.fv (.v 5)) (.cons (.c (.str "@")) (.cons (.fv (.sub (.v 7) (.c (.int 0)))) (.cons (.c (.str "..")) (.cons (.fv (.v 2)) .nil))))))))
  .nil)))))))))⟩
def f_formula_text : LFun := ⟨["formula"], ["formula", "term"], (.cons (.ex (.call "need_formula" (.cons (.v 0) (.cons (.g "LETTERS") .nil))))
  (.cons (.ret (.ite (.cmp .ne (.v 0) (.tup .nil)) (.m1 .join (.c (.str " + ")) (.lc [1] (.nm 1) (.seq (.v 0)) .non (.call "term_text" (.cons (.v 1) .nil)))) (.c (.str "-"))))
  .nil))⟩
def f_number_in : LFun := ⟨["text"], ["text", "plain", "sign"], (.cons (.asg (.nm 1) (.ite (.e (.m1 .starts (.v 0) (.c (.str "-")))) (.slc (.v 0) (.som (.c (.int 1))) .non) (.v 0)))
  (.cons (.ite (.or (.not (.chn .le .le (.c (.int 1)) (.fn .len (.v 1)) (.c (.int 16)))) (.not (.e (.fn .all (.lc [2] (.nm 2) (.seq (.v 1)) .non (.cmp .isin (.v 2) (.g "FIGURES"))))))) (.cons (.ret (.c .non))
    .nil) .nil)
  (.cons (.ret (.ite (.and (.cmp .eq (.v 1) (.fn .str (.fn .int (.v 1)))) (.cmp .ne (.v 0) (.c (.str "-0")))) (.fn .int (.v 0)) (.c .non)))
  .nil)))⟩
def f_thing_in : LFun := ⟨["much", "text"], ["much", "text", "name", "rest", "first", "dots", "last"], (.cons (.ite (.cmp .eq (.v 1) (.c (.str "gone"))) (.cons (.ret (.tup (.cons (.c (.str "gone")) (.cons (.v 0) .nil))))
    .nil) .nil)
  (.cons (.par [2, 3] (.cons (.slc (.v 1) .non (.som (.c (.int 1)))) (.cons (.slc (.v 1) (.som (.c (.int 1))) .non) .nil)))
  (.cons (.ite (.cmp .eq (.v 3) (.c (.str ""))) (.cons (.ret (.tup (.cons (.c (.str "look")) (.cons (.v 0) (.cons (.v 2) (.cons (.c (.int 0)) .nil))))))
    .nil) .nil)
  (.cons (.ite (.and (.e (.m1 .starts (.v 3) (.c (.str "[")))) (.e (.m1 .ends (.v 3) (.c (.str "]"))))) (.cons (.ret (.tup (.cons (.c (.str "look")) (.cons (.v 0) (.cons (.v 2) (.cons (.call "number_in" (.cons (.slc (.v 3) (.som (.c (.int 1))) (.som (.neg (.c (.int 1))))) .nil)) .nil))))))
    .nil) .nil)
  (.cons (.ite (.not (.e (.m1 .starts (.v 3) (.c (.str "@"))))) (.cons (.ret (.c .non))
    .nil) .nil)
  (.cons (.asg (.tp [(.nm 4), (.nm 5), (.nm 6)]) (.m1 .part (.slc (.v 3) (.som (.c (.int 1))) .non) (.c (.str ".."))))
  (.cons (.ite (.cmp .eq (.v 5) (.c (.str ""))) (.cons (.ret (.tup (.cons (.c (.str "at")) (.cons (.v 0) (.cons (.v 2) (.cons (.call "number_in" (.cons (.v 4) .nil)) .nil))))))
    .nil) .nil)
  (.cons (.ite (.and (.e (.m1 .starts (.v 6) (.c (.str "[")))) (.e (.m1 .ends (.v 6) (.c (.str "]"))))) (.cons (.ret (.tup (.cons (.c (.str "sum")) (.cons (.v 0) (.cons (.v 2) (.cons (.call "number_in" (.cons (.v 4) .nil)) (.cons (.call "number_in" (.cons (.slc (.v 6) (.som (.c (.int 1))) (.som (.neg (.c (.int 1))))) .nil)) .nil)))))))
    .nil) .nil)
  (.cons (.ret (.tup (.cons (.c (.str "total")) (.cons (.v 0) (.cons (.v 2) (.cons (.call "number_in" (.cons (.v 4) .nil)) (.cons (.call "number_in" (.cons (.v 6) .nil)) .nil)))))))
  .nil)))))))))⟩
def f_term_in : LFun := ⟨["text"], ["text", "found", "good", "head", "star", "rest", "much"], (.cons (.asg (.tp [(.nm 3), (.nm 4), (.nm 5)]) (.m1 .part (.v 0) (.c (.str "*"))))
  (.cons (.asg (.nm 1) (.c .non))
  (.cons (.ite (.cmp .eq (.v 4) (.c (.str "*"))) (.cons (.asg (.nm 6) (.call "number_in" (.cons (.v 3) .nil)))
    (.cons (.asg (.nm 1) (.ite (.cmp .notN (.v 6) (.c .non)) (.call "thing_in" (.cons (.v 6) (.cons (.v 5) .nil))) (.c .non)))
    .nil)) (.cons (.ite (.cmp .notN (.call "number_in" (.cons (.v 0) .nil)) (.c .non)) (.cons (.asg (.nm 1) (.tup (.cons (.c (.str "one")) (.cons (.call "number_in" (.cons (.v 0) .nil)) .nil))))
    .nil) (.cons (.asg (.nm 1) (.call "thing_in" (.cons (.c (.int 1)) (.cons (.v 0) .nil))))
    .nil))
    .nil))
  (.cons (.asg (.nm 2) (.and (.cmp .notN (.v 1) (.c .non)) (.and (.call "is_term" (.cons (.v 1) (.cons (.g "LETTERS") .nil))) (.cmp .eq (.call "term_text" (.cons (.v 1) .nil)) (.v 0)))))
  (.cons (.ret (.ite (.e (.v 2)) (.v 1) (.c .non)))
  .nil)))))⟩
def f_read_formula : LFun := ⟨["text"], ["text", "words", "found", "word"], (.cons (.ite (.cmp .eq (.v 0) (.c (.str "-"))) (.cons (.ret (.tup .nil))
    .nil) .nil)
  (.cons (.asg (.nm 1) (.m1 .split (.v 0) (.c (.str " + "))))
  (.cons (.asg (.nm 2) (.lc [3] (.nm 3) (.seq (.slc (.v 1) .non (.som (.g "MOST_TERMS")))) .non (.call "term_in" (.cons (.v 3) .nil))))
  (.cons (.ite (.cmp .isin (.c .non) (.v 2)) (.cons (.rse "BadText" (.cons (.m1 .index (.v 2) (.c .non)) .nil))
    .nil) .nil)
  (.cons (.ite (.cmp .gt (.fn .len (.v 1)) (.g "MOST_TERMS")) (.cons (.rse "BadText" (.cons (.g "MOST_TERMS") .nil))
    .nil) .nil)
  (.cons (.ret (.fn .tuple (.v 2)))
  .nil))))))⟩
/-! ### written texts -/
theorem t_star : Str.ofString "*" = sT [42] := sT_lit (by decide)
theorem t_dash : Str.ofString "-" = sT [45] := sT_lit (by decide)
theorem t_lb : Str.ofString "[" = sT [91] := sT_lit (by decide)
theorem t_rb : Str.ofString "]" = sT [93] := sT_lit (by decide)
theorem t_atl : Str.ofString "@" = sT [64] := sT_lit (by decide)
theorem t_dots : Str.ofString ".." = sT [46, 46] := sT_lit (by decide)
theorem t_plus : Str.ofString " + " = sT [32, 43, 32] := sT_lit (by decide)
theorem t_empty : Str.ofString "" = sT [] := sT_lit (by decide)
theorem t_gonel : Str.ofString "gone" = sT [103, 111, 110, 101] := sT_lit (by decide)
theorem t_dash0 : Str.ofString "-0" = sT [45, 48] := sT_lit (by decide)
theorem t_la : Str.ofString "a" = sT [97] := sT_lit (by decide)
theorem t_lbb : Str.ofString "b" = sT [98] := sT_lit (by decide)
theorem t_lcc : Str.ofString "c" = sT [99] := sT_lit (by decide)
theorem t_figs : Str.ofString "0123456789" = sT [48, 49, 50, 51, 52, 53, 54, 55, 56, 57] := sT_lit (by decide)
theorem t_nil : Str.empty = sT [] := rfl
theorem eq_one_one (S : Sto) : cop .eq S (.str "one") (.str "one") = some true := by kernel_rfl
theorem eq_one_look (S : Sto) : cop .eq S (.str "one") (.str "look") = some false := by kernel_rfl
theorem eq_one_at (S : Sto) : cop .eq S (.str "one") (.str "at") = some false := by kernel_rfl
theorem eq_one_sum (S : Sto) : cop .eq S (.str "one") (.str "sum") = some false := by kernel_rfl
theorem eq_one_total (S : Sto) : cop .eq S (.str "one") (.str "total") = some false := by kernel_rfl
theorem eq_one_gone (S : Sto) : cop .eq S (.str "one") (.str "gone") = some false := by kernel_rfl
theorem eq_look_one (S : Sto) : cop .eq S (.str "look") (.str "one") = some false := by kernel_rfl
theorem eq_look_total (S : Sto) : cop .eq S (.str "look") (.str "total") = some false := by kernel_rfl
theorem eq_look_gone (S : Sto) : cop .eq S (.str "look") (.str "gone") = some false := by kernel_rfl
theorem eq_at_one (S : Sto) : cop .eq S (.str "at") (.str "one") = some false := by kernel_rfl
theorem eq_at_total (S : Sto) : cop .eq S (.str "at") (.str "total") = some false := by kernel_rfl
theorem eq_at_gone (S : Sto) : cop .eq S (.str "at") (.str "gone") = some false := by kernel_rfl
theorem eq_sum_one (S : Sto) : cop .eq S (.str "sum") (.str "one") = some false := by kernel_rfl
theorem eq_sum_total (S : Sto) : cop .eq S (.str "sum") (.str "total") = some false := by kernel_rfl
theorem eq_sum_gone (S : Sto) : cop .eq S (.str "sum") (.str "gone") = some false := by kernel_rfl
theorem eq_total_one (S : Sto) : cop .eq S (.str "total") (.str "one") = some false := by kernel_rfl
theorem eq_total_total (S : Sto) : cop .eq S (.str "total") (.str "total") = some true := by kernel_rfl
theorem eq_total_gone (S : Sto) : cop .eq S (.str "total") (.str "gone") = some false := by kernel_rfl
theorem eq_gone_one (S : Sto) : cop .eq S (.str "gone") (.str "one") = some false := by kernel_rfl
theorem eq_gone_look (S : Sto) : cop .eq S (.str "gone") (.str "look") = some false := by kernel_rfl
theorem eq_gone_at (S : Sto) : cop .eq S (.str "gone") (.str "at") = some false := by kernel_rfl
theorem eq_gone_sum (S : Sto) : cop .eq S (.str "gone") (.str "sum") = some false := by kernel_rfl
theorem eq_gone_total (S : Sto) : cop .eq S (.str "gone") (.str "total") = some false := by kernel_rfl
theorem eq_gone_gone (S : Sto) : cop .eq S (.str "gone") (.str "gone") = some true := by kernel_rfl
structure ENIn (N : Cn) (T : Str → Option LFun) : Prop where
  ninT : T "number_in" = some f_number_in
  ninH : N.has "number_in" = true
  gFig : N.g "FIGURES" = some (.str "0123456789")
structure ETxt (N : Cn) (T : Str → Option LFun) : Prop where
  ttT : T "term_text" = some f_term_text
  ttH : N.has "term_text" = true
structure EFTx (N : Cn) (T : Str → Option LFun) : Prop extends ETxt N T, ENeed N T where
  ftT : T "formula_text" = some f_formula_text
  ftH : N.has "formula_text" = true
  gLet : N.g "LETTERS" = some (.tup [.str "a", .str "b", .str "c"])
structure ETIn (N : Cn) (T : Str → Option LFun) : Prop extends ENIn N T, ETxt N T, EIsT N T where
  gLet : N.g "LETTERS" = some (.tup [.str "a", .str "b", .str "c"])
  thT : T "thing_in" = some f_thing_in
  thH : N.has "thing_in" = true
  tiT : T "term_in" = some f_term_in
  tiH : N.has "term_in" = true
structure ERead (N : Cn) (T : Str → Option LFun) : Prop extends ETIn N T where
  rdT : T "read_formula" = some f_read_formula
  rdH : N.has "read_formula" = true
  gTerms : N.g "MOST_TERMS" = some (.int 5)
  xmT : ∀ i : Int, N.xm "BadText" [.int i] = some [(("word" : Str), U.str "badtext"), (("at" : Str), .int i)]
section
variable {N : Cn} {T : Str → Option LFun}
def optI : Option Int → U
  | some i => .int i
  | none => .non
theorem fig_mem (c : Nat) : decide (c ∈ [48, 49, 50, 51, 52, 53, 54, 55, 56, 57]) = (decide (48 ≤ c) && decide (c ≤ 57)) := by
  rw [Bool.eq_iff_iff]
  simp
  omega
theorem isin_fig (S : Sto) (c : Nat) : cop .isin S (.str (sT [c])) (.str (sT [48, 49, 50, 51, 52, 53, 54, 55, 56, 57])) = some (decide (48 ≤ c) && decide (c ≤ 57)) := by
  rw [isin_sT, fig_mem]
def digU : U → Bool
  | .str z => allDig (sL z)
  | _ => false
theorem digU_sT (l : List Nat) : digU (.str (sT l)) = allDig l := by
  show allDig (sL (sT l)) = _
  rw [sL_sT]
theorem nin_ok (E : ENIn N T) {k : Nat} (hk : 1 ≤ k) {l : List Nat} (hl : okL l = true) (hb : l.length ≤ big) (S : Sto) : callN N T k "number_in" [.str (sT l)] S = .ok (optI (numIn l)) S := by
  rw [call_eq hk E.ninT rfl]
  have e1 : evE N (callN N T (k - 1)) [.val (.str (sT l)), .no, .no] (.ite (.e (.m1 .starts (.v 0) (.c (.str "-")))) (.slc (.v 0) (.som (.c (.int 1))) .non) (.v 0)) S = .ok (.str (sT (plainOf l))) S := by
    have c1 := cut_from S hb 1
    simp only [Int.ofNat_eq_natCast, Int.cast_ofNat_Int] at c1
    unfold plainOf neg?
    cases h : [45].isPrefixOf l with
    | true => simp [t_dash, starts_sT, metTy, h, truth, c1]
    | false => simp [t_dash, starts_sT, metTy, h, truth]
  have hp : okL (plainOf l) = true := by
    unfold plainOf
    split
    · exact okL_drop 1 hl
    · exact hl
  have hpb : (plainOf l).length ≤ big := by
    unfold plainOf
    split
    · rw [List.length_drop]; omega
    · exact hb
  simp only [f_number_in, startU, List.length_cons, List.length_nil, List.map_cons, List.map_nil, evSs_cons, evS_asg]
  simp only [List.cons_append, List.nil_append, Nat.reduceAdd, Nat.reduceSub, List.replicate, e1]
  generalize hP : plainOf l = p at hp hpb
  by_cases c1 : 1 ≤ p.length ∧ p.length ≤ 16
  · have b1 : p.length ≤ big := by simp [big]; omega
    have turn : ∀ u ∈ signsU (sT p), lcTurn N (callN N T (k - 1)) [.val (.str (sT l)), .val (.str (sT p)), .no] [2] (.nm 2) .non (.cmp .isin (.v 2) (.g "FIGURES")) u S = .ok (some (.bl (digU u))) S := fun u hu => by
      rw [signs_sT] at hu
      obtain ⟨c, _, rfl⟩ := List.mem_map.mp hu
      simp [lcTurn, wipeS, E.gFig, t_figs, isin_fig, digU_sT, allDig]
    have lc := lc_map (fun u => .bl (digU u)) S (signsU (sT p)) [] turn
    have ha : fnc .all S [.lst ((signsU (sT p)).map fun u => .bl (digU u))] = some (.val (.bl (allDig p))) := by
      rw [all_map, signs_sT]
      congr 3
      rw [List.all_map]
      show p.all (fun c => digU (.str (sT [c]))) = _
      simp only [digU_sT]
      unfold allDig
      simp
    have sl : (signsU (sT p)).length ≤ big := by rw [signs_sT]; simpa using b1
    have i1 : (1 : Int) ≤ p.length := by omega
    have i2 : (p.length : Int) ≤ 16 := by omega
    cases hd : allDig p with
    | false =>
      simp [hP, hd, len_sTu S hpb, i1, i2, truth, sl, lc, ha, endU, numIn, optI]
    | true =>
      have c3 : p ≠ [] := fun z => by rw [z] at c1; simp at c1
      have iv := int_u S (l := p) (by omega) (int_dig hd c3 (by omega))
      have vb : (valL p) < 10 ^ 16 := Nat.lt_of_lt_of_le (valL_lt _ hd) (Nat.pow_le_pow_right (by decide) c1.2)
      have vl : ((valL p : Nat) : Int).natAbs.log2 < 1920 := by
        rw [Int.natAbs_natCast]
        by_cases z : valL p = 0
        · rw [z]; decide
        · exact Nat.lt_trans ((Nat.log2_lt z (k := 64)).mpr (Nat.lt_trans vb (by decide))) (by decide)
      have sv := str_u S vl
      have en : numL ((valL p : Nat) : Int) = digL (valL p) := by
        unfold numL
        rw [if_neg (by omega), Int.natAbs_natCast]
      have okd : okL (digL (valL p)) = true := en ▸ numL_okL _
      have q1 : cop .eq S (.str (sT p)) (.str (sT (digL (valL p)))) = some (decide (p = digL (valL p))) := eq_sT hp okd S
      have q2 : cop .ne S (.str (sT l)) (.str (sT [45, 48])) = some (!decide (l = [45, 48])) := ne_sT hl (by decide) S
      have il : fnc .int S [.str (sT l)] = some (.val (.int (if neg? l = true then -((valL p : Nat) : Int) else ((valL p : Nat) : Int)))) := by
        cases hn : neg? l with
        | true =>
          obtain ⟨t, rfl⟩ := neg_iff.mp hn
          have ep : plainOf (45 :: t) = t := by unfold plainOf; rw [if_pos hn]; rfl
          rw [ep] at hP
          subst hP
          exact int_u S (by simp; omega) (int_neg hd c3 (by omega))
        | false =>
          have ep : plainOf l = l := by unfold plainOf; rw [hn]; rfl
          rw [ep] at hP
          subst hP
          exact iv
      by_cases d1 : p = digL (valL p)
      · by_cases d2 : l = [45, 48]
        · have nn : numIn l = none := by
            unfold numIn
            rw [hP, if_pos ⟨c1.1, c1.2, hd⟩, if_neg (fun z => z.2 d2)]
          rw [nn]
          rw [decide_eq_true d2] at q2
          rw [decide_eq_true d1] at q1
          simp [len_sTu S hpb, i1, i2, truth, sl, lc, ha, hd, iv, sv, en, q1, t_dash0, q2, endU, optI]
        · have nn : numIn l = some (if neg? l = true then -((valL p : Nat) : Int) else ((valL p : Nat) : Int)) := by
            unfold numIn
            rw [hP, if_pos ⟨c1.1, c1.2, hd⟩, if_pos ⟨d1, d2⟩]
          rw [nn]
          rw [decide_eq_false d2] at q2
          rw [decide_eq_true d1] at q1
          simp [len_sTu S hpb, i1, i2, truth, sl, lc, ha, hd, iv, sv, en, q1, t_dash0, q2, endU, optI, il]
      · have nn : numIn l = none := by
          unfold numIn
          rw [hP, if_pos ⟨c1.1, c1.2, hd⟩, if_neg (fun z => d1 z.1)]
        rw [nn]
        rw [decide_eq_false d1] at q1
        simp [len_sTu S hpb, i1, i2, truth, sl, lc, ha, hd, iv, sv, en, q1, endU, optI]
  · have nn : numIn l = none := by
      unfold numIn
      rw [hP, if_neg (fun z => c1 ⟨z.1, z.2.1⟩)]
    rw [nn]
    by_cases z : (1 : Int) ≤ p.length
    · have z2 : ¬ ((p.length : Int) ≤ 16) := by omega
      simp [len_sTu S hpb, z, z2, endU, optI]
    · simp [len_sTu S hpb, z, endU, optI]
end
end Far.L

set_option Elab.async false
set_option linter.all false
set_option maxRecDepth 100000
set_option maxHeartbeats 4000000
/-! Terms and their texts. -/
namespace Far
open PySem L2
theorem findL_free {c : Nat} {r l : List Nat} (h : c ∉ l) : findL (c :: r) l = none := by
  induction l with
  | nil => rfl
  | cons d t ih =>
    unfold findL
    rw [if_neg, ih (fun z => h (by simp [z]))]
    · rfl
    · rw [List.isPrefixOf_iff_prefix]
      rintro ⟨s, e⟩
      simp at e
      exact h (by simp [e.1])
theorem findL_at {c : Nat} {r a b : List Nat} (h : c ∉ a) : findL (c :: r) (a ++ (c :: r) ++ b) = some (a, b) := by
  refine findL_of (by simp) fun k hk => ?_
  rintro ⟨s, e⟩
  have e2 : (a ++ c :: r ++ b)[k]? = some c := by
    have := congrArg (fun l => l[0]?) e
    simp only [List.cons_append, List.getElem?_cons_zero] at this
    rw [this, List.getElem?_drop]
    simp
  rw [List.append_assoc, List.getElem?_append_left hk] at e2
  exact h (List.mem_of_getElem? e2)
end Far
namespace Far.L
open PySem PySem.Spec PyProof.Rows L2
inductive Tm where
  | one (k : Int)
  | gone (k : Int)
  | look (k : Int) (c : Nat) (b : Int)
  | at_ (k : Int) (c : Nat) (r : Int)
  | sum (k : Int) (c : Nat) (r b : Int)
  | total (k : Int) (c : Nat) (r l : Int)
def tmU : Tm → U
  | .one k => .tup [.str "one", .int k]
  | .gone k => .tup [.str "gone", .int k]
  | .look k c b => .tup [.str "look", .int k, .str (sT [c]), .int b]
  | .at_ k c r => .tup [.str "at", .int k, .str (sT [c]), .int r]
  | .sum k c r b => .tup [.str "sum", .int k, .str (sT [c]), .int r, .int b]
  | .total k c r l => .tup [.str "total", .int k, .str (sT [c]), .int r, .int l]
def kOk (k : Int) : Prop := -999 ≤ k ∧ k ≤ 999
def cOk (c : Nat) : Prop := c = 97 ∨ c = 98 ∨ c = 99
def rOk (r : Int) : Prop := 0 ≤ r ∧ r ≤ 1000000000000000
def bOk (b : Int) : Prop := -1 ≤ b ∧ b ≤ 1
def lOk (l : Int) : Prop := -1 ≤ l ∧ l ≤ 1000000000000000
def Tm.ok : Tm → Prop
  | .one k => kOk k
  | .gone k => kOk k
  | .look k c b => kOk k ∧ cOk c ∧ bOk b
  | .at_ k c r => kOk k ∧ cOk c ∧ rOk r
  | .sum k c r b => kOk k ∧ cOk c ∧ rOk r ∧ bOk b
  | .total k c r l => kOk k ∧ cOk c ∧ rOk r ∧ lOk l
def headL (k : Int) : List Nat := if k = 1 then [] else numL k ++ [42]
/-- what stands behind the number -/
def thgL : Tm → List Nat
  | .one _ => []
  | .gone _ => [103, 111, 110, 101]
  | .look _ c b => c :: (if b = 0 then [] else 91 :: (numL b ++ [93]))
  | .at_ _ c r => c :: 64 :: numL r
  | .sum _ c r b => c :: 64 :: (numL r ++ [46, 46] ++ (91 :: (numL b ++ [93])))
  | .total _ c r l => c :: 64 :: (numL r ++ [46, 46] ++ numL l)
def Tm.k : Tm → Int
  | .one k => k
  | .gone k => k
  | .look k _ _ => k
  | .at_ k _ _ => k
  | .sum k _ _ _ => k
  | .total k _ _ _ => k
def tmL : Tm → List Nat
  | .one k => numL k
  | t => headL t.k ++ thgL t
theorem small_log {i : Int} (h : i.natAbs < 10 ^ 16) : i.natAbs.log2 < 1920 := by
  by_cases z : i.natAbs = 0
  · rw [z]; decide
  · exact Nat.lt_trans ((Nat.log2_lt z (k := 64)).mpr (Nat.lt_trans h (by decide))) (by decide)
theorem kOk.s {k : Int} (h : kOk k) : k.natAbs < 10 ^ 16 := by obtain ⟨a, b⟩ := h; omega
theorem rOk.s {k : Int} (h : rOk k) : k.natAbs < 10 ^ 16 := by obtain ⟨a, b⟩ := h; omega
theorem bOk.s {k : Int} (h : bOk k) : k.natAbs < 10 ^ 16 := by obtain ⟨a, b⟩ := h; omega
theorem lOk.s {k : Int} (h : lOk k) : k.natAbs < 10 ^ 16 := by obtain ⟨a, b⟩ := h; omega
theorem headL_len {k : Int} (h : kOk k) : (headL k).length ≤ 18 := by
  have := numL_len h.s
  unfold headL
  split <;> simp <;> omega
theorem headL_ok (k : Int) : okL (headL k) = true := by
  unfold headL
  split
  · rfl
  · simp [numL_okL]
theorem tmL_len {t : Tm} (h : t.ok) : (tmL t).length ≤ 80 := by
  cases t with
  | one k =>
    have := numL_len (kOk.s h)
    show (numL k).length ≤ 80
    omega
  | gone k =>
    have := headL_len (show kOk k from h)
    show (headL k ++ [103, 111, 110, 101]).length ≤ 80
    simp; omega
  | look k c b =>
    have h1 := headL_len h.1
    have h2 := numL_len h.2.2.s
    show (headL k ++ (c :: (if b = 0 then [] else 91 :: (numL b ++ [93])))).length ≤ 80
    split <;> simp <;> omega
  | at_ k c r =>
    have h1 := headL_len h.1
    have h2 := numL_len h.2.2.s
    show (headL k ++ (c :: 64 :: numL r)).length ≤ 80
    simp; omega
  | sum k c r b =>
    have h1 := headL_len h.1
    have h2 := numL_len h.2.2.1.s
    have h3 := numL_len h.2.2.2.s
    show (headL k ++ (c :: 64 :: (numL r ++ [46, 46] ++ (91 :: (numL b ++ [93]))))).length ≤ 80
    simp; omega
  | total k c r l =>
    have h1 := headL_len h.1
    have h2 := numL_len h.2.2.1.s
    have h3 := numL_len h.2.2.2.s
    show (headL k ++ (c :: 64 :: (numL r ++ [46, 46] ++ numL l))).length ≤ 80
    simp; omega
theorem tmL_ok {t : Tm} (h : t.ok) : okL (tmL t) = true := by
  have cl : ∀ {c : Nat}, cOk c → c < 1114112 := fun {c} h => by rcases h with h | h | h <;> omega
  cases t with
  | one k => exact numL_okL k
  | gone k => simp [tmL, thgL, headL_ok]
  | look k c b =>
    simp only [tmL, thgL, okL_app, headL_ok, okL_cons, decide_eq_true (cl h.2.1), Bool.true_and]
    split
    · rfl
    · simp [numL_okL]
  | at_ k c r => simp [tmL, thgL, headL_ok, numL_okL, cl h.2.1]
  | sum k c r b => simp [tmL, thgL, headL_ok, numL_okL, cl h.2.1]
  | total k c r l => simp [tmL, thgL, headL_ok, numL_okL, cl h.2.1]
/-! ### the program's writing -/
section
variable {N : Cn} {T : Str → Option LFun}
theorem eq_i (S : Sto) (i j : Int) : cop .eq S (.int i) (.int j) = some (decide (i = j)) := by
  show (if (SeqAt.shaped (.int i) && SeqAt.shaped (.int j)) = true then some (PyData.eqv (.int i) (.int j)) else none) = _
  have e : ∀ i : Int, SeqAt.shaped (.int i) = true := fun i => rfl
  rw [e, e]
  show some (PyData.eqv (.int i) (.int j)) = _
  unfold PyData.eqv
  congr 1
theorem js_cons {cf : CF} {σ : Slots} {S : Sto} {e : LE} {es : LEs} {a b : List Nat} (h : evE N cf σ e S = .ok (.str (sT b)) S) (hl : a.length + b.length ≤ big) : evJs N cf σ (.cons e es) (sT a) S = evJs N cf σ es (sT (a ++ b)) S := by
  rw [evJs_cons, h]
  simp only [R.bind_ok, kJs_]
  rw [if_pos (by rw [app_sT, len_sT, List.length_append]; exact hl), app_sT]
theorem c_at_ (S : Sto) (us : List U) (c : U) : item S (.lst (c :: us)) (.int 0) = some c := by
  rw [item_lst, atI_nn _ _ (by omega) (by simp)]
  rfl
theorem c_at1 (S : Sto) (us : List U) (b c : U) : item S (.lst (b :: c :: us)) (.int 1) = some c := by
  rw [item_lst, atI_nn _ _ (by omega) (by simp; omega)]
  rfl
theorem add_lit (S : Sto) {a b : List Nat} {z : String} (hz : Str.ofString z = sT b) (h : a.length + b.length ≤ big) : bop .add S (.str (sT a)) (.str (Str.ofString z)) = some (.val (.str (sT (a ++ b)))) := by
  rw [hz]; exact add_sT S h
theorem js_lit {cf : CF} {σ : Slots} {S : Sto} {z : String} {es : LEs} {a b : List Nat} (hz : Str.ofString z = sT b) (hl : a.length + b.length ≤ big) : evJs N cf σ (.cons (.c (.str z)) es) (sT a) S = evJs N cf σ es (sT (a ++ b)) S :=
  js_cons (by rw [evE_c, hz]) hl
theorem fv_int {cf : CF} {σ : Slots} {S : Sto} {e : LE} {i : Int} (h : evE N cf σ e S = .ok (.int i) S) (hi : i.natAbs < 10 ^ 16) : evE N cf σ (.fv e) S = .ok (.str (sT (numL i))) S := by
  rw [evE_fv, h]
  simp [fmt_u (small_log hi)]
theorem fv_str {cf : CF} {σ : Slots} {S : Sto} {e : LE} {l : List Nat} (h : evE N cf σ e S = .ok (.str (sT l)) S) (hi : l.length ≤ big) : evE N cf σ (.fv e) S = .ok (.str (sT l)) S := by
  rw [evE_fv, h]
  simp [fmt_s hi]
theorem fs_ok {cf : CF} {σ : Slots} {S S1 : Sto} {es : LEs} {l : List Nat} (h : evJs N cf σ es (sT []) S = .ok (sT l) S1) : evE N cf σ (.fs es) S = .ok (.str (sT l)) S1 := by
  rw [evE_fs, t_nil, h]
  rfl
theorem hfs {cf : CF} {σ : Slots} {S : Sto} {k : Int} (h : kOk k) (hs : σ[4]? = some (.val (.int k))) : evE N cf σ (.fs (.cons (.fv (.v 4)) (.cons (.c (.str "*")) .nil))) S = .ok (.str (sT (numL k ++ [42]))) S := by
  have l1 := numL_len h.s
  refine fs_ok ?_
  rw [js_cons (fv_int (i := k) (by simp [hs]) h.s) (by simp [big]; omega), js_lit t_star (by simp [big]; omega)]
  simp
theorem head_ok {cf : CF} {σ : Slots} {S : Sto} {k : Int} (h : kOk k) (hs : σ[4]? = some (.val (.int k))) : evE N cf σ (.ite (.cmp .eq (.v 4) (.c (.int 1))) (.c (.str "")) (.fs (.cons (.fv (.v 4)) (.cons (.c (.str "*")) .nil)))) S = .ok (.str (sT (headL k))) S := by
  have e := hfs (N := N) (cf := cf) (S := S) h hs
  by_cases c : k = 1
  · subst c
    simp [hs, headL, t_empty]
  · simp [hs, c, headL, -evE_fs, e]
theorem tt_ok (E : ETxt N T) {k : Nat} (hk : 1 ≤ k) {t : Tm} (h : t.ok) (S : Sto) : callN N T k "term_text" [tmU t] S = .ok (.str (sT (tmL t))) S := by
  rw [call_eq hk E.ttT rfl]
  generalize callN N T (k - 1) = cf
  cases t with
  | one m =>
    simp [f_term_text, tmU, tmL, startU, eq_one_one, str_u S (small_log (kOk.s h)), endU, big]
  | gone m =>
    have hh := head_ok (N := N) (cf := cf) (S := S) (σ := [.val (tmU (.gone m)), .no, .no, .val (.str "gone"), .val (.int m), .no, .val (.lst []), .no]) (k := m) h rfl
    have l1 := headL_len (show kOk m from h)
    have a1 := add_lit S (a := headL m) t_gonel (by simp [big]; omega)
    simp only [tmU] at hh
    simp [f_term_text, tmU, startU, eq_gone_one, eq_gone_gone, -evE_ite, hh, a1, endU, tmL, thgL, Tm.k]
  | look m c b =>
    obtain ⟨h1, h2, h3⟩ := h
    let σ : Slots := [.val (tmU (.look m c b)), .val (.str (sT (headL m))), .no, .val (.str "look"), .val (.int m), .val (.str (sT [c])), .val (.lst [.str (sT [c]), .int b]), .val (.lst [.int b])]
    have hh := head_ok (N := N) (cf := cf) (S := S) (σ := [.val (tmU (.look m c b)), .no, .no, .val (.str "look"), .val (.int m), .no, .val (.lst [.str (sT [c]), .int b]), .no]) (k := m) h1 rfl
    have l1 := headL_len h1
    have l2 := numL_len h3.s
    have ei : evE N cf σ (.sub (.v 7) (.c (.int 0))) S = .ok (.int b) S := by simp [σ, c_at_]
    have e1 : evE N cf σ (.ite (.cmp .eq (.sub (.v 7) (.c (.int 0))) (.c (.int 0))) (.v 5) (.fs (.cons (.fv (.v 5)) (.cons (.c (.str "[")) (.cons (.fv (.sub (.v 7) (.c (.int 0)))) (.cons (.c (.str "]")) .nil)))))) S = .ok (.str (sT (thgL (.look m c b)))) S := by
      have ef : evE N cf σ (.fs (.cons (.fv (.v 5)) (.cons (.c (.str "[")) (.cons (.fv (.sub (.v 7) (.c (.int 0)))) (.cons (.c (.str "]")) .nil))))) S = .ok (.str (sT (c :: 91 :: (numL b ++ [93])))) S := by
        refine fs_ok ?_
        rw [js_cons (fv_str (l := [c]) (by simp [σ]) (by simp [big])) (by simp [big]), js_lit t_lb (by simp [big]), js_cons (fv_int ei h3.s) (by simp [big]; omega), js_lit t_rb (by simp [big]; omega)]
        simp
      by_cases z : b = 0
      · simp [z, thgL, σ, c_at_]
      · simp only [σ] at ef
        simp [z, thgL, σ, c_at_, -evE_fs, ef]
    have a1 := add_sT S (a := headL m) (b := thgL (.look m c b)) (by
      have : (thgL (.look m c b)).length ≤ 20 := by
        simp only [thgL]
        split <;> simp <;> omega
      simp only [big]; omega)
    simp only [tmU] at hh
    simp only [σ, tmU] at e1
    simp [f_term_text, tmU, startU, eq_look_one, eq_look_gone, eq_look_look, -evE_ite, hh, e1, a1, endU, tmL, Tm.k]
  | at_ m c r =>
    obtain ⟨h1, h2, h3⟩ := h
    let σ : Slots := [.val (tmU (.at_ m c r)), .val (.str (sT (headL m))), .no, .val (.str "at"), .val (.int m), .val (.str (sT [c])), .val (.lst [.str (sT [c]), .int r]), .val (.lst [.int r])]
    have hh := head_ok (N := N) (cf := cf) (S := S) (σ := [.val (tmU (.at_ m c r)), .no, .no, .val (.str "at"), .val (.int m), .no, .val (.lst [.str (sT [c]), .int r]), .no]) (k := m) h1 rfl
    have l1 := headL_len h1
    have l2 := numL_len h3.s
    have ei : evE N cf σ (.sub (.v 7) (.c (.int 0))) S = .ok (.int r) S := by simp [σ, c_at_]
    have ef : evE N cf σ (.fs (.cons (.fv (.v 1)) (.cons (.fv (.v 5)) (.cons (.c (.str "@")) (.cons (.fv (.sub (.v 7) (.c (.int 0)))) .nil))))) S = .ok (.str (sT (tmL (.at_ m c r)))) S := by
      refine fs_ok ?_
      rw [js_cons (fv_str (l := headL m) (by simp [σ]) (by simp [big]; omega)) (by simp [big]; omega), js_cons (fv_str (l := [c]) (by simp [σ]) (by simp [big])) (by simp [big]; omega), js_lit t_atl (by simp [big]; omega), js_cons (fv_int ei h3.s) (by simp [big]; omega)]
      simp [tmL, thgL, Tm.k]
    simp only [tmU] at hh
    simp only [σ, tmU] at ef
    simp [f_term_text, tmU, startU, eq_at_one, eq_at_gone, eq_at_look, eq_at_at, -evE_ite, -evE_fs, hh, ef, endU]
  | sum m c r b =>
    obtain ⟨h1, h2, h3, h4⟩ := h
    let σ : Slots := [.val (tmU (.sum m c r b)), .val (.str (sT (headL m))), .no, .val (.str "sum"), .val (.int m), .val (.str (sT [c])), .val (.lst [.str (sT [c]), .int r, .int b]), .val (.lst [.int r, .int b])]
    let σ' : Slots := [.val (tmU (.sum m c r b)), .val (.str (sT (headL m))), .val (.str (sT (91 :: (numL b ++ [93])))), .val (.str "sum"), .val (.int m), .val (.str (sT [c])), .val (.lst [.str (sT [c]), .int r, .int b]), .val (.lst [.int r, .int b])]
    have hh := hfs (N := N) (cf := cf) (S := S) (σ := [.val (tmU (.sum m c r b)), .no, .no, .val (.str "sum"), .val (.int m), .no, .val (.lst [.str (sT [c]), .int r, .int b]), .no]) (k := m) h1 rfl
    have l1 := headL_len h1
    have l2 := numL_len h3.s
    have l3 := numL_len h4.s
    have ei : evE N cf σ' (.sub (.v 7) (.c (.int 0))) S = .ok (.int r) S := by simp [σ', c_at_]
    have ej : evE N cf σ (.sub (.v 7) (.c (.int 1))) S = .ok (.int b) S := by simp [σ, c_at1]
    have eg : evE N cf σ (.fs (.cons (.c (.str "[")) (.cons (.fv (.sub (.v 7) (.c (.int 1)))) (.cons (.c (.str "]")) .nil)))) S = .ok (.str (sT (91 :: (numL b ++ [93])))) S := by
      refine fs_ok ?_
      rw [js_lit t_lb (by simp [big]), js_cons (fv_int ej h4.s) (by simp [big]; omega), js_lit t_rb (by simp [big]; omega)]
      simp
    have ef : evE N cf σ' (.fs (.cons (.fv (.v 1)) (.cons (.fv (.v 5)) (.cons (.c (.str "@")) (.cons (.fv (.sub (.v 7) (.c (.int 0)))) (.cons (.c (.str "..")) (.cons (.fv (.v 2)) .nil))))))) S = .ok (.str (sT (tmL (.sum m c r b)))) S := by
      refine fs_ok ?_
      rw [js_cons (fv_str (l := headL m) (by simp [σ']) (by simp [big]; omega)) (by simp [big]; omega), js_cons (fv_str (l := [c]) (by simp [σ']) (by simp [big])) (by simp [big]; omega), js_lit t_atl (by simp [big]; omega), js_cons (fv_int ei h3.s) (by simp [big]; omega), js_lit t_dots (by simp [big]; omega), js_cons (fv_str (l := 91 :: (numL b ++ [93])) (by simp [σ']) (by simp [big]; omega)) (by simp [big]; omega)]
      simp [tmL, thgL, Tm.k]
    simp only [tmU] at hh
    simp only [σ, tmU] at eg
    simp only [σ', tmU] at ef
    by_cases z : m = 1
    · subst z
      simp only [headL, if_pos] at eg ef
      simp [f_term_text, tmU, startU, eq_sum_one, eq_sum_gone, eq_sum_look, eq_sum_at, eq_sum_sum, t_empty, -evE_fs, ef, eg, endU]
    · simp only [headL, if_neg z] at eg ef
      simp [f_term_text, tmU, startU, eq_sum_one, eq_sum_gone, eq_sum_look, eq_sum_at, eq_sum_sum, z, hh, -evE_fs, ef, eg, endU]
  | total m c r l =>
    obtain ⟨h1, h2, h3, h4⟩ := h
    let σ' : Slots := [.val (tmU (.total m c r l)), .val (.str (sT (headL m))), .val (.str (sT (numL l))), .val (.str "total"), .val (.int m), .val (.str (sT [c])), .val (.lst [.str (sT [c]), .int r, .int l]), .val (.lst [.int r, .int l])]
    have hh := hfs (N := N) (cf := cf) (S := S) (σ := [.val (tmU (.total m c r l)), .no, .no, .val (.str "total"), .val (.int m), .no, .val (.lst [.str (sT [c]), .int r, .int l]), .no]) (k := m) h1 rfl
    have l1 := headL_len h1
    have l2 := numL_len h3.s
    have l3 := numL_len h4.s
    have ei : evE N cf σ' (.sub (.v 7) (.c (.int 0))) S = .ok (.int r) S := by simp [σ', c_at_]
    have ef : evE N cf σ' (.fs (.cons (.fv (.v 1)) (.cons (.fv (.v 5)) (.cons (.c (.str "@")) (.cons (.fv (.sub (.v 7) (.c (.int 0)))) (.cons (.c (.str "..")) (.cons (.fv (.v 2)) .nil))))))) S = .ok (.str (sT (tmL (.total m c r l)))) S := by
      refine fs_ok ?_
      rw [js_cons (fv_str (l := headL m) (by simp [σ']) (by simp [big]; omega)) (by simp [big]; omega), js_cons (fv_str (l := [c]) (by simp [σ']) (by simp [big])) (by simp [big]; omega), js_lit t_atl (by simp [big]; omega), js_cons (fv_int ei h3.s) (by simp [big]; omega), js_lit t_dots (by simp [big]; omega), js_cons (fv_str (l := numL l) (by simp [σ']) (by simp [big]; omega)) (by simp [big]; omega)]
      simp [tmL, thgL, Tm.k]
    simp only [tmU] at hh
    simp only [σ', tmU] at ef
    by_cases z : m = 1
    · subst z
      simp only [headL, if_pos] at ef
      simp [f_term_text, tmU, startU, eq_total_one, eq_total_gone, eq_total_look, eq_total_at, eq_total_sum, t_empty, -evE_fs, ef, c_at1, str_u S (small_log h4.s), endU]
    · simp only [headL, if_neg z] at ef
      simp [f_term_text, tmU, startU, eq_total_one, eq_total_gone, eq_total_look, eq_total_at, eq_total_sum, z, hh, -evE_fs, ef, c_at1, str_u S (small_log h4.s), endU]
end
end Far.L

set_option Elab.async false
set_option linter.all false
set_option maxRecDepth 100000
set_option maxHeartbeats 4000000
/-! Texts read as terms. -/
namespace Far.L
open PySem PySem.Spec PyProof.Rows L2
/-- what a text names -/
def thing2 (m : Int) (n : List Nat) (f : List Nat) (o : Option (List Nat × List Nat)) : U := match o with
  | none => .tup [.str "at", .int m, .str (sT n), optI (numIn f)]
  | some (a, b) => if [91].isPrefixOf b = true ∧ [93].isSuffixOf b = true then .tup [.str "sum", .int m, .str (sT n), optI (numIn a), optI (numIn ((b.drop 1).dropLast))]
    else .tup [.str "total", .int m, .str (sT n), optI (numIn a), optI (numIn b)]
def thingU (m : Int) (l : List Nat) : U :=
  if l = [103, 111, 110, 101] then .tup [.str "gone", .int m] else
  if l.drop 1 = [] then .tup [.str "look", .int m, .str (sT (l.take 1)), .int 0] else
  if [91].isPrefixOf (l.drop 1) = true ∧ [93].isSuffixOf (l.drop 1) = true then .tup [.str "look", .int m, .str (sT (l.take 1)), optI (numIn (((l.drop 1).drop 1).dropLast))] else
  if [64].isPrefixOf (l.drop 1) = false then .non else thing2 m (l.take 1) ((l.drop 1).drop 1) (findL [46, 46] ((l.drop 1).drop 1))
section
variable {N : Cn} {T : Str → Option LFun}
theorem okL_dl {a : List Nat} (h : okL a = true) : okL a.dropLast = true := okL_of h fun _ hc => (List.dropLast_sublist _).mem hc
theorem dl_len (a : List Nat) : a.dropLast.length ≤ a.length := by simp
theorem starts_lit {z : String} {a b : List Nat} (hz : Str.ofString z = sT b) : met .starts (.str (sT a)) (.str (Str.ofString z)) = some (.val (.bl (b.isPrefixOf a))) := by
  rw [hz]; exact starts_sT a b
theorem ends_lit {z : String} {a b : List Nat} (hz : Str.ofString z = sT b) : met .ends (.str (sT a)) (.str (Str.ofString z)) = some (.val (.bl (b.isSuffixOf a))) := by
  rw [hz]; exact ends_sT a b
theorem eq_lit {z : String} {a b : List Nat} (hz : Str.ofString z = sT b) (ha : okL a = true) (hb : okL b = true) (S : Sto) : cop .eq S (.str (sT a)) (.str (Str.ofString z)) = some (decide (a = b)) := by
  rw [hz]; exact eq_sT ha hb S
theorem part_lit {z : String} {a b : List Nat} (hz : Str.ofString z = sT b) (hb : b ≠ []) (ha : a.length ≤ big) : met .part (.str (sT a)) (.str (Str.ofString z)) = some (.val (match findL b a with
    | some (p, q) => .tup [.str (sT p), .str (sT b), .str (sT q)]
    | none => .tup [.str (sT a), .str (sT []), .str (sT [])])) := by
  rw [hz]; exact part_sT hb ha
@[simp] theorem assign_tp3 (i j k : Nat) (a b c : U) (σ : Slots) : assign (.tp [.nm i, .nm j, .nm k]) (.tup [a, b, c]) σ = some (((σ.set i (.val a)).set j (.val b)).set k (.val c)) := by
  rw [assign]
  simp [assign.assigns]
theorem findL_ok {s l a b : List Nat} (h : findL s l = some (a, b)) (hl : okL l = true) : okL a = true ∧ okL b = true ∧ a.length ≤ l.length ∧ b.length ≤ l.length := by
  obtain ⟨e, _⟩ := findL_some h
  subst e
  simp at hl
  exact ⟨hl.1, hl.2.2, by simp, by simp; omega⟩
theorem th_ok (E : ETIn N T) {k : Nat} (hk : 2 ≤ k) (m : Int) {l : List Nat} (hl : okL l = true) (hb : l.length ≤ 50000) (S : Sto) : callN N T k "thing_in" [.int m, .str (sT l)] S = .ok (thingU m l) S := by
  rw [call_eq (by omega) E.thT rfl]
  have hbig : l.length ≤ big := by simp [big]; omega
  have ol1 := okL_drop 1 hl
  have ol2 := okL_drop 1 ol1
  have b1 : (l.drop 1).length ≤ big := by simp [big]; omega
  have b2 : ((l.drop 1).drop 1).length ≤ big := by simp [big]; omega
  have q1 := eq_lit t_gonel hl (by decide) S
  have c1 := cut_to S hbig 1
  have c2 := cut_from S hbig 1
  simp only [Int.ofNat_eq_natCast, Int.cast_ofNat_Int] at c1 c2
  have q2 := eq_lit (a := l.drop 1) t_empty ol1 (by decide) S
  have p1 := starts_lit (a := l.drop 1) t_lb
  have p2 := ends_lit (a := l.drop 1) t_rb
  have c3 := cut_in S b1
  have n1 := nin_ok E.toENIn (k := k - 1) (by omega) (okL_dl ol2) (Nat.le_trans (dl_len _) b2) S
  have p3 := starts_lit (a := l.drop 1) t_atl
  have c4 := cut_from S b1 1
  simp only [Int.ofNat_eq_natCast, Int.cast_ofNat_Int] at c4
  have pt := part_lit (a := (l.drop 1).drop 1) t_dots (by decide) b2
  unfold thingU
  by_cases z1 : l = [103, 111, 110, 101]
  · rw [decide_eq_true z1] at q1
    rw [if_pos z1]
    simp [f_thing_in, startU, q1, endU, big]
  rw [if_neg z1]
  rw [decide_eq_false z1] at q1
  by_cases z2 : l.drop 1 = []
  · rw [decide_eq_true z2] at q2
    rw [if_pos z2]
    simp [-List.drop_one, f_thing_in, startU, q1, c1, c2, setVals, q2, endU, big]
  rw [if_neg z2]
  rw [decide_eq_false z2] at q2
  by_cases z3 : [91].isPrefixOf (l.drop 1) = true ∧ [93].isSuffixOf (l.drop 1) = true
  · rw [if_pos z3]
    obtain ⟨z3, z4⟩ := z3
    rw [z3] at p1
    rw [z4] at p2
    simp [-List.drop_one, -List.drop_drop, f_thing_in, startU, q1, c1, c2, setVals, q2, metTy, p1, p2, truth, c3, E.ninH, n1, endU, big]
  rw [if_neg z3]
  have z4 : [91].isPrefixOf (l.drop 1) = false ∨ ([91].isPrefixOf (l.drop 1) = true ∧ [93].isSuffixOf (l.drop 1) = false) := by
    cases e1 : [91].isPrefixOf (l.drop 1) with
    | false => exact .inl rfl
    | true =>
      cases e2 : [93].isSuffixOf (l.drop 1) with
      | false => exact .inr ⟨rfl, rfl⟩
      | true => exact absurd ⟨e1, e2⟩ z3
  by_cases z5 : [64].isPrefixOf (l.drop 1) = false
  · rw [if_pos z5]
    rw [z5] at p3
    rcases z4 with z4 | ⟨z4, z6⟩
    · rw [z4] at p1
      simp [-List.drop_one, -List.drop_drop, f_thing_in, startU, q1, c1, c2, setVals, q2, metTy, p1, truth, p3, endU, big]
    · rw [z4] at p1
      rw [z6] at p2
      simp [-List.drop_one, -List.drop_drop, f_thing_in, startU, q1, c1, c2, setVals, q2, metTy, p1, p2, truth, p3, endU, big]
  rw [if_neg z5]
  have z5' : [64].isPrefixOf (l.drop 1) = true := by simpa using z5
  rw [z5'] at p3
  have qe0 := eq_lit (a := []) t_empty (by decide) (by decide) S
  have qe1 := eq_lit (a := [46, 46]) t_empty (by decide) (by decide) S
  rw [decide_eq_true rfl] at qe0
  rw [decide_eq_false (by decide)] at qe1
  cases hf : findL [46, 46] ((l.drop 1).drop 1) with
  | none =>
    rw [hf] at pt
    have n2 := nin_ok E.toENIn (k := k - 1) (by omega) ol2 b2 S
    rcases z4 with z4 | ⟨z4, z6⟩
    · rw [z4] at p1
      simp [-List.drop_one, -List.drop_drop, f_thing_in, startU, q1, c1, c2, setVals, q2, metTy, p1, truth, p3, c4, pt, qe0, E.ninH, n2, endU, big, thing2]
    · rw [z4] at p1
      rw [z6] at p2
      simp [-List.drop_one, -List.drop_drop, f_thing_in, startU, q1, c1, c2, setVals, q2, metTy, p1, p2, truth, p3, c4, pt, qe0, E.ninH, n2, endU, big, thing2]
  | some p =>
    obtain ⟨a, b⟩ := p
    rw [hf] at pt
    obtain ⟨oa, ob, la, lb⟩ := findL_ok hf ol2
    have ba : a.length ≤ big := Nat.le_trans la b2
    have bb : b.length ≤ big := Nat.le_trans lb b2
    have n3 := nin_ok E.toENIn (k := k - 1) (by omega) oa ba S
    have n4 := nin_ok E.toENIn (k := k - 1) (by omega) ob bb S
    have n5 := nin_ok E.toENIn (k := k - 1) (by omega) (okL_dl (okL_drop 1 ob)) (Nat.le_trans (dl_len _) (by rw [List.length_drop]; omega)) S
    have p4 := starts_lit (a := b) t_lb
    have p5 := ends_lit (a := b) t_rb
    have c5 := cut_in S bb
    have fin : ∀ (X : Bool), ([91].isPrefixOf b = X) → endU (evSs N (callN N T (k - 1)) f_thing_in.body (startU f_thing_in.names.length [.int m, .str (sT l)]) S) = .ok (thing2 m (l.take 1) ((l.drop 1).drop 1) (some (a, b))) S := fun X hX => by
      rw [hX] at p4
      cases X with
      | false =>
        have nn : ¬ ([91].isPrefixOf b = true ∧ [93].isSuffixOf b = true) := fun z => by rw [hX] at z; cases z.1
        rcases z4 with z4 | ⟨z4, z6⟩
        · rw [z4] at p1
          simp [-List.drop_one, -List.drop_drop, f_thing_in, startU, q1, c1, c2, setVals, q2, metTy, p1, truth, p3, c4, pt, qe1, E.ninH, n3, n4, p4, endU, big, thing2, nn, hX]
        · rw [z4] at p1
          rw [z6] at p2
          simp [-List.drop_one, -List.drop_drop, f_thing_in, startU, q1, c1, c2, setVals, q2, metTy, p1, p2, truth, p3, c4, pt, qe1, E.ninH, n3, n4, p4, endU, big, thing2, nn, hX]
      | true =>
        cases hY : [93].isSuffixOf b with
        | false =>
          rw [hY] at p5
          rcases z4 with z4 | ⟨z4, z6⟩
          · rw [z4] at p1
            simp [-List.drop_one, -List.drop_drop, f_thing_in, startU, q1, c1, c2, setVals, q2, metTy, p1, truth, p3, c4, pt, qe1, E.ninH, n3, n4, p4, p5, endU, big, thing2, hX, hY]
          · rw [z4] at p1
            rw [z6] at p2
            simp [-List.drop_one, -List.drop_drop, f_thing_in, startU, q1, c1, c2, setVals, q2, metTy, p1, p2, truth, p3, c4, pt, qe1, E.ninH, n3, n4, p4, p5, endU, big, thing2, hX, hY]
        | true =>
          rw [hY] at p5
          rcases z4 with z4 | ⟨z4, z6⟩
          · rw [z4] at p1
            simp [-List.drop_one, -List.drop_drop, f_thing_in, startU, q1, c1, c2, setVals, q2, metTy, p1, truth, p3, c4, pt, qe1, E.ninH, n3, n5, p4, p5, c5, endU, big, thing2, hX, hY]
          · rw [z4] at p1
            rw [z6] at p2
            simp [-List.drop_one, -List.drop_drop, f_thing_in, startU, q1, c1, c2, setVals, q2, metTy, p1, p2, truth, p3, c4, pt, qe1, E.ninH, n3, n5, p4, p5, c5, endU, big, thing2, hX, hY]
    exact fin _ rfl
end
end Far.L

set_option Elab.async false
set_option linter.all false
set_option maxRecDepth 100000
set_option maxHeartbeats 4000000
/-! Texts read as terms: just what is so written. -/
namespace Far.L
open PySem PySem.Spec PyProof.Rows L2
abbrev letters : List U := [.str "a", .str "b", .str "c"]
theorem let_flat : ∀ w ∈ letters, flatU w = true := by
  have fa : flatU (.str "a") = true := by kernel_rfl
  have fb : flatU (.str "b") = true := by kernel_rfl
  have fc : flatU (.str "c") = true := by kernel_rfl
  intro w hw
  simp at hw
  rcases hw with rfl | rfl | rfl
  · exact fa
  · exact fb
  · exact fc
theorem mem_let {c : Nat} (h : cOk c) : memB (.str (sT [c])) letters = true := by
  rcases h with rfl | rfl | rfl
  · rw [← t_la]; kernel_rfl
  · rw [← t_lbb]; kernel_rfl
  · rw [← t_lcc]; kernel_rfl
theorem mem_str {x : Str} (h : memB (.str x) letters = true) : ∃ c, cOk c ∧ x = sT [c] := by
  unfold memB inFlat at h
  have e : letters.mapM flatV? = some [.str "a", .str "b", .str "c"] := rfl
  rw [e] at h
  have h2 : inV (.str x) [.str "a", .str "b", .str "c"] = true := h
  have ev : ∀ a b : Str, eqV (.str a) (.str b) = true → b = a := fun a b e => by
    have e2 : (a == b) = true := e
    exact (eq_of_beq e2).symm
  unfold inV at h2
  simp only [List.any_cons, List.any_nil, Bool.or_false, Bool.or_eq_true] at h2
  rcases h2 with h2 | h2 | h2
  · exact ⟨97, .inl rfl, by rw [← t_la]; exact ev _ _ h2⟩
  · exact ⟨98, .inr (.inl rfl), by rw [← t_lbb]; exact ev _ _ h2⟩
  · exact ⟨99, .inr (.inr rfl), by rw [← t_lcc]; exact ev _ _ h2⟩
theorem mem_flat {u : U} (hu : flatU u = true) (h : memB u letters = true) : ∃ c, cOk c ∧ u = .str (sT [c]) := by
  cases u with
  | str x =>
    obtain ⟨c, h1, rfl⟩ := mem_str h
    exact ⟨c, h1, rfl⟩
  | int i => cases h
  | non => cases h
  | _ => cases hu
theorem numB_int {u : U} {lo hi : Int} (h : numB u lo hi = true) : ∃ i, u = .int i ∧ lo ≤ i ∧ i ≤ hi := by
  cases u with
  | int i =>
    simp [numB] at h
    exact ⟨i, rfl, h.1, h.2⟩
  | _ => cases h
/-- a good term is one -/
theorem good_tm {ws : List U} (hf : ∀ w ∈ ws, flatU w = true) (h : goodB letters ws = true) : ∃ t : Tm, t.ok ∧ tmU t = .tup ws := by
  unfold goodB at h
  split at h
  · simp only [Bool.and_eq_true, decide_eq_true_eq] at h
    obtain ⟨i, rfl, h1, h2⟩ := numB_int h.2
    rcases h.1 with rfl | rfl
    · exact ⟨.one i, ⟨h1, h2⟩, rfl⟩
    · exact ⟨.gone i, ⟨h1, h2⟩, rfl⟩
  · rename_i w a nm r
    simp only [Bool.and_eq_true, Bool.or_eq_true, decide_eq_true_eq] at h
    obtain ⟨h1, h2, h3⟩ := h
    obtain ⟨i, rfl, i1, i2⟩ := numB_int h1
    obtain ⟨c, hc, rfl⟩ := mem_flat (hf nm (by simp)) h2
    rcases h3 with ⟨rfl, h3⟩ | ⟨rfl, h3⟩
    · obtain ⟨j, rfl, j1, j2⟩ := numB_int h3
      exact ⟨.look i c j, ⟨⟨i1, i2⟩, hc, j1, j2⟩, rfl⟩
    · obtain ⟨j, rfl, j1, j2⟩ := numB_int h3
      exact ⟨.at_ i c j, ⟨⟨i1, i2⟩, hc, j1, j2⟩, rfl⟩
  · rename_i w a nm r s
    simp only [Bool.and_eq_true, Bool.or_eq_true, decide_eq_true_eq] at h
    obtain ⟨h1, h2, h4, h3⟩ := h
    obtain ⟨i, rfl, i1, i2⟩ := numB_int h1
    obtain ⟨c, hc, rfl⟩ := mem_flat (hf nm (by simp)) h2
    obtain ⟨f, rfl, f1, f2⟩ := numB_int h4
    rcases h3 with ⟨rfl, h3⟩ | ⟨rfl, h3⟩
    · obtain ⟨j, rfl, j1, j2⟩ := numB_int h3
      exact ⟨.sum i c f j, ⟨⟨i1, i2⟩, hc, ⟨f1, f2⟩, j1, j2⟩, rfl⟩
    · obtain ⟨j, rfl, j1, j2⟩ := numB_int h3
      exact ⟨.total i c f j, ⟨⟨i1, i2⟩, hc, ⟨f1, f2⟩, j1, j2⟩, rfl⟩
  · cases h
theorem tm_good {t : Tm} (h : t.ok) : ∃ ws, tmU t = .tup ws ∧ goodB letters ws = true := by
  cases t with
  | one k => exact ⟨_, rfl, by simp [goodB, numB, h.1, h.2]⟩
  | gone k => exact ⟨_, rfl, by simp [goodB, numB, h.1, h.2]⟩
  | look k c b => exact ⟨_, rfl, by simp [goodB, numB, h.1.1, h.1.2, mem_let h.2.1, h.2.2.1, h.2.2.2]⟩
  | at_ k c r => exact ⟨_, rfl, by simp [goodB, numB, h.1.1, h.1.2, mem_let h.2.1, h.2.2.1, h.2.2.2]⟩
  | sum k c r b => exact ⟨_, rfl, by simp [goodB, numB, h.1.1, h.1.2, mem_let h.2.1, h.2.2.1.1, h.2.2.1.2, h.2.2.2.1, h.2.2.2.2]⟩
  | total k c r b => exact ⟨_, rfl, by simp [goodB, numB, h.1.1, h.1.2, mem_let h.2.1, h.2.2.1.1, h.2.2.1.2, h.2.2.2.1, h.2.2.2.2]⟩
theorem tm_flat {t : Tm} (h : t.ok) : termU (tmU t) = true := by
  have fc : ∀ {c : Nat}, cOk c → flatU (.str (sT [c])) = true := fun {c} h => shaped_sT (by rcases h with rfl | rfl | rfl <;> decide)
  cases t with
  | one k => simp [tmU, termU]
  | gone k => simp [tmU, termU]
  | look k c b => simp [tmU, termU, fc h.2.1]
  | at_ k c r => simp [tmU, termU, fc h.2.1]
  | sum k c r b => simp [tmU, termU, fc h.2.1]
  | total k c r b => simp [tmU, termU, fc h.2.1]
theorem tmU_inj {s t : Tm} (h : tmU s = tmU t) : s = t := by
  have e1 : ∀ {a b : Nat}, sT [a] = sT [b] → a = b := fun {a b} h => by
    have := sT_inj h
    simpa using this
  cases s <;> cases t <;> simp [tmU] at h ⊢ <;> first | exact h | (obtain ⟨h1, h2⟩ := h; first | exact absurd h1 (by decide) | exact h2 | skip) | skip
end Far.L

set_option Elab.async false
set_option linter.all false
set_option maxRecDepth 100000
set_option maxHeartbeats 4000000
namespace Far.L
open PySem PySem.Spec PyProof.Rows L2
def rawU (l : List Nat) : U := match findL [42] l with
  | some (h, r) => (match numIn h with
    | some m => thingU m r
    | none => .non)
  | none => (match numIn l with
    | some n => .tup [.str "one", .int n]
    | none => thingU 1 l)
theorem num_no {i : Int} {c : Nat} (h1 : c ≠ 45) (h2 : c < 48 ∨ 57 < c) : c ∉ numL i := fun h => by
  rcases numL_ok i c h with h | h <;> omega
theorem suf_end (a : List Nat) (c : Nat) : [c].isSuffixOf (a ++ [c]) = true := by
  rw [List.isSuffixOf_iff_suffix]
  exact ⟨a, rfl⟩
theorem pre_cons (c d : Nat) (l : List Nat) : [c].isPrefixOf (d :: l) = (c == d) := by
  show ((c == d) && List.isPrefixOf [] l) = _
  cases l <;> simp [List.isPrefixOf]
theorem num_pre {i : Int} {c : Nat} (h1 : c ≠ 45) (h2 : c < 48 ∨ 57 < c) : [c].isPrefixOf (numL i) = false := by
  cases e : numL i with
  | nil => exact absurd e (numL_ne i)
  | cons d t =>
    rw [pre_cons]
    refine beq_eq_false_iff_ne.mpr fun z => ?_
    have := num_no (i := i) h1 h2
    rw [e, z] at this
    simp at this
theorem thing_back {t : Tm} (h : t.ok) (n1 : ∀ k, t ≠ .one k) : thingU t.k (thgL t) = tmU t := by
  have cg : ∀ {c : Nat}, cOk c → c ≠ 103 := fun {c} h => by rcases h with h | h | h <;> omega
  cases t with
  | one k => exact absurd rfl (n1 k)
  | gone k => rfl
  | look k c b =>
    obtain ⟨h1, h2, h3⟩ := h
    by_cases z : b = 0
    · subst z
      simp [thgL, thingU, tmU, Tm.k]
    · have ng : ¬ (c :: 91 :: (numL b ++ [93])) = [103, 111, 110, 101] := fun e => by simp at e
      have e1 : (c :: 91 :: (numL b ++ [93])).drop 1 = 91 :: (numL b ++ [93]) := rfl
      have e2 : (c :: 91 :: (numL b ++ [93])).take 1 = [c] := rfl
      have e3 : [93].isSuffixOf (91 :: (numL b ++ [93])) = true := suf_end (91 :: numL b) 93
      have e4 : ((91 :: (numL b ++ [93])).drop 1).dropLast = numL b := by simp
      show thingU k (c :: (if b = 0 then [] else 91 :: (numL b ++ [93]))) = _
      rw [if_neg z]
      unfold thingU
      rw [if_neg ng, e1, e2, if_neg (by simp), if_pos ⟨by simp, e3⟩, e4, numIn_num h3.s]
      rfl
  | at_ k c r =>
    obtain ⟨h1, h2, h3⟩ := h
    have ng : ¬ (c :: 64 :: numL r) = [103, 111, 110, 101] := fun e => by simp at e
    have e1 : (c :: 64 :: numL r).drop 1 = 64 :: numL r := rfl
    have e2 : (c :: 64 :: numL r).take 1 = [c] := rfl
    have e4 : (64 :: numL r).drop 1 = numL r := rfl
    show thingU k (c :: 64 :: numL r) = _
    unfold thingU
    rw [if_neg ng, e1, e2, if_neg (by simp), if_neg (by simp), if_neg (by simp), e4, findL_free (num_no (by omega) (by omega))]
    simp only [thing2]
    rw [numIn_num h3.s]
    rfl
  | sum k c r b =>
    obtain ⟨h1, h2, h3, h4⟩ := h
    have ng : ¬ (c :: 64 :: (numL r ++ [46, 46] ++ (91 :: (numL b ++ [93])))) = [103, 111, 110, 101] := fun e => by simp at e
    have e1 : (c :: 64 :: (numL r ++ [46, 46] ++ (91 :: (numL b ++ [93])))).drop 1 = 64 :: (numL r ++ [46, 46] ++ (91 :: (numL b ++ [93]))) := rfl
    have e2 : (c :: 64 :: (numL r ++ [46, 46] ++ (91 :: (numL b ++ [93])))).take 1 = [c] := rfl
    have e4 : (64 :: (numL r ++ [46, 46] ++ (91 :: (numL b ++ [93])))).drop 1 = numL r ++ [46, 46] ++ (91 :: (numL b ++ [93])) := rfl
    have e3 : [93].isSuffixOf (91 :: (numL b ++ [93])) = true := suf_end (91 :: numL b) 93
    have e5 : ((91 :: (numL b ++ [93])).drop 1).dropLast = numL b := by simp
    show thingU k (c :: 64 :: (numL r ++ [46, 46] ++ (91 :: (numL b ++ [93])))) = _
    unfold thingU
    rw [if_neg ng, e1, e2, if_neg (by simp), if_neg (by simp), if_neg (by simp), e4, findL_at (num_no (by omega) (by omega))]
    simp only [thing2]
    rw [if_pos ⟨by simp, e3⟩, e5, numIn_num h3.s, numIn_num h4.s]
    rfl
  | total k c r l =>
    obtain ⟨h1, h2, h3, h4⟩ := h
    have ng : ¬ (c :: 64 :: (numL r ++ [46, 46] ++ numL l)) = [103, 111, 110, 101] := fun e => by simp at e
    have e1 : (c :: 64 :: (numL r ++ [46, 46] ++ numL l)).drop 1 = 64 :: (numL r ++ [46, 46] ++ numL l) := rfl
    have e2 : (c :: 64 :: (numL r ++ [46, 46] ++ numL l)).take 1 = [c] := rfl
    have e4 : (64 :: (numL r ++ [46, 46] ++ numL l)).drop 1 = numL r ++ [46, 46] ++ numL l := rfl
    show thingU k (c :: 64 :: (numL r ++ [46, 46] ++ numL l)) = _
    unfold thingU
    rw [if_neg ng, e1, e2, if_neg (by simp), if_neg (by simp), if_neg (by simp), e4, findL_at (num_no (by omega) (by omega))]
    simp only [thing2]
    rw [if_neg (fun z => by rw [num_pre (by omega) (by omega)] at z; cases z.1), numIn_num h3.s, numIn_num h4.s]
    rfl
theorem num_not {c : Nat} {r : List Nat} (h1 : c ≠ 45) (h2 : c < 48 ∨ 57 < c) : numIn (c :: r) = none := by
  cases e : numIn (c :: r) with
  | none => rfl
  | some i =>
    obtain ⟨e1, _⟩ := numIn_some e
    exact absurd (by rw [← e1]; simp) (num_no (i := i) h1 h2)
theorem thg_head {t : Tm} (h : t.ok) (n1 : ∀ k, t ≠ .one k) : ∃ c r, thgL t = c :: r ∧ 97 ≤ c ∧ 42 ∉ thgL t := by
  have cg : ∀ {c : Nat}, cOk c → 97 ≤ c ∧ c ≤ 99 := fun {c} h => by rcases h with h | h | h <;> omega
  have n42 : ∀ i, 42 ∉ numL i := fun i => num_no (by omega) (by omega)
  cases t with
  | one k => exact absurd rfl (n1 k)
  | gone k => exact ⟨103, _, rfl, by omega, by simp [thgL]⟩
  | look k c b =>
    refine ⟨c, _, rfl, (cg h.2.1).1, ?_⟩
    have := (cg h.2.1).1
    simp only [thgL]
    split
    · simp; omega
    · simp [n42]; omega
  | at_ k c r =>
    refine ⟨c, _, rfl, (cg h.2.1).1, ?_⟩
    have := (cg h.2.1).1
    simp [thgL, n42]; omega
  | sum k c r b =>
    refine ⟨c, _, rfl, (cg h.2.1).1, ?_⟩
    have := (cg h.2.1).1
    simp [thgL, n42]; omega
  | total k c r b =>
    refine ⟨c, _, rfl, (cg h.2.1).1, ?_⟩
    have := (cg h.2.1).1
    simp [thgL, n42]; omega
theorem raw_back {t : Tm} (h : t.ok) : rawU (tmL t) = tmU t := by
  by_cases n1 : ∃ k, t = .one k
  · obtain ⟨k, rfl⟩ := n1
    unfold rawU
    show (match findL [42] (numL k) with | some (h, r) => (match numIn h with | some m => thingU m r | none => U.non) | none => (match numIn (numL k) with | some n => .tup [.str "one", .int n] | none => thingU 1 (numL k))) = _
    rw [findL_free (num_no (by omega) (by omega))]
    simp only
    rw [numIn_num (kOk.s h)]
    rfl
  · have n1 : ∀ k, t ≠ .one k := fun k e => n1 ⟨k, e⟩
    obtain ⟨c, r, e1, e2, e3⟩ := thg_head h n1
    have hk : kOk t.k := by
      cases t <;> first | exact h | exact h.1
    have et : tmL t = headL t.k ++ thgL t := by
      cases t <;> first | rfl | exact absurd rfl (n1 _)
    have tb := thing_back h n1
    unfold rawU
    rw [et]
    by_cases z : t.k = 1
    · have eh : headL t.k = [] := by unfold headL; rw [if_pos z]
      rw [eh, List.nil_append, findL_free e3]
      simp only
      rw [e1, num_not (by omega) (by omega), ← e1]
      simp only
      rw [z] at tb
      exact tb
    · have eh : headL t.k = numL t.k ++ [42] := by unfold headL; rw [if_neg z]
      rw [eh, findL_at (num_no (by omega) (by omega))]
      simp only
      rw [numIn_num hk.s]
      exact tb
theorem flat_opt (o : Option Int) : flatU (optI o) = true := by cases o <;> rfl
theorem thing_flat (m : Int) {l : List Nat} (hl : okL l = true) : thingU m l = .non ∨ ∃ ws, thingU m l = .tup ws ∧ ∀ w ∈ ws, flatU w = true := by
  have fn : flatU (.str (sT (l.take 1))) = true := shaped_sT (okL_take 1 hl)
  unfold thingU
  split
  · exact .inr ⟨_, rfl, by simp⟩
  · split
    · exact .inr ⟨_, rfl, by simp [fn]⟩
    · split
      · exact .inr ⟨_, rfl, by simp [fn, flat_opt]⟩
      · split
        · exact .inl rfl
        · unfold thing2
          split
          · exact .inr ⟨_, rfl, by simp [fn, flat_opt]⟩
          · split
            · exact .inr ⟨_, rfl, by simp [fn, flat_opt]⟩
            · exact .inr ⟨_, rfl, by simp [fn, flat_opt]⟩
theorem raw_flat {l : List Nat} (hl : okL l = true) : rawU l = .non ∨ ∃ ws, rawU l = .tup ws ∧ ∀ w ∈ ws, flatU w = true := by
  unfold rawU
  cases hf : findL [42] l with
  | some p =>
    obtain ⟨a, b⟩ := p
    obtain ⟨_, ob, _, _⟩ := findL_ok hf hl
    simp only
    cases numIn a with
    | none => exact .inl rfl
    | some m => exact thing_flat m ob
  | none =>
    simp only
    cases numIn l with
    | none => exact thing_flat 1 hl
    | some n => exact .inr ⟨_, rfl, by simp⟩
section
variable {N : Cn} {T : Str → Option LFun}
theorem nn_non (S : Sto) : cop .notN S .non .non = some false := rfl
theorem nn_int (S : Sto) (i : Int) : cop .notN S (.int i) .non = some true := rfl
theorem nn_tup (S : Sto) (us : List U) : cop .notN S (.tup us) .non = some true := rfl
/-- the statements behind the found one -/
theorem ti_tail (E : ETIn N T) {k : Nat} (hk : 3 ≤ k) {l : List Nat} (hl : okL l = true) (S : Sto) {u : U} (hu : u = .non ∨ ∃ ws, u = .tup ws ∧ ∀ w ∈ ws, flatU w = true) (a b c d : SL) :
    ∃ v, evSs N (callN N T (k - 1)) (tailS (tailS (tailS f_term_in.body))) [.val (.str (sT l)), .val u, .no, a, b, c, d] S = .rt v S ∧ ((∃ t : Tm, t.ok ∧ u = tmU t ∧ tmL t = l ∧ v = tmU t) ∨ ((∀ t : Tm, t.ok → u = tmU t → tmL t ≠ l) ∧ v = .non)) := by
  rcases hu with rfl | ⟨ws, rfl, hw⟩
  · refine ⟨.non, ?_, .inr ⟨fun t _ e => (by cases t <;> cases e), rfl⟩⟩
    simp [f_term_in, tailS, nn_non, truth]
  · have ei := ist_ok E.toEIsT (k := k - 1) (by omega) (c := .tup letters) (names := letters) (.inr rfl) let_flat S hw
    cases hg : goodB letters ws with
    | false =>
      rw [hg] at ei
      refine ⟨.non, ?_, .inr ⟨fun t ht e => ?_, rfl⟩⟩
      · simp [f_term_in, tailS, nn_tup, E.istH, E.gLet, ei, truth]
      · obtain ⟨vs, e1, e2⟩ := tm_good ht
        rw [e1] at e
        cases e
        rw [e2] at hg
        cases hg
    | true =>
      rw [hg] at ei
      obtain ⟨t, ht, et⟩ := good_tm hw hg
      have tt := tt_ok E.toETxt (k := k - 1) (by omega) ht S
      rw [et] at tt
      have q := eq_sT (tmL_ok ht) hl S
      by_cases z : tmL t = l
      · rw [decide_eq_true z] at q
        refine ⟨.tup ws, ?_, .inl ⟨t, ht, et.symm, z, et.symm⟩⟩
        simp [f_term_in, tailS, nn_tup, E.istH, E.gLet, ei, E.ttH, tt, q, truth]
      · rw [decide_eq_false z] at q
        refine ⟨.non, ?_, .inr ⟨fun s hs e => ?_, rfl⟩⟩
        · simp [f_term_in, tailS, nn_tup, E.istH, E.gLet, ei, E.ttH, tt, q, truth]
        · have : s = t := tmU_inj (e.symm.trans et.symm)
          rw [this]
          exact z
theorem ti_raw (E : ETIn N T) {k : Nat} (hk : 3 ≤ k) {l : List Nat} (hl : okL l = true) (hb : l.length ≤ 50000) (S : Sto) :
    ∃ a b c d, evSs N (callN N T (k - 1)) f_term_in.body [.val (.str (sT l)), .no, .no, .no, .no, .no, .no] S = evSs N (callN N T (k - 1)) (tailS (tailS (tailS f_term_in.body))) [.val (.str (sT l)), .val (rawU l), .no, a, b, c, d] S := by
  have hbig : l.length ≤ big := by simp [big]; omega
  have pt := part_lit (a := l) t_star (by decide) hbig
  have qe0 := eq_lit (a := []) t_star (by decide) (by decide) S
  have qe1 := eq_lit (a := [42]) t_star (by decide) (by decide) S
  rw [decide_eq_false (by decide)] at qe0
  rw [decide_eq_true rfl] at qe1
  unfold rawU
  cases hf : findL [42] l with
  | some p =>
    obtain ⟨h, r⟩ := p
    rw [hf] at pt
    obtain ⟨oh, or, lh, lr⟩ := findL_ok hf hl
    have n1 := nin_ok E.toENIn (k := k - 1) (by omega) oh (Nat.le_trans lh hbig) S
    simp only
    cases hn : numIn h with
    | none =>
      rw [hn] at n1
      refine ⟨.val (.str (sT h)), .val (.str (sT [42])), .val (.str (sT r)), .val .non, ?_⟩
      simp [f_term_in, tailS, metTy, pt, qe1, E.ninH, n1, optI, nn_non]
    | some m =>
      rw [hn] at n1
      have t1 := th_ok E (k := k - 1) (by omega) m or (by omega) S
      refine ⟨.val (.str (sT h)), .val (.str (sT [42])), .val (.str (sT r)), .val (.int m), ?_⟩
      simp [f_term_in, tailS, metTy, pt, qe1, E.ninH, n1, optI, nn_int, E.thH, t1]
  | none =>
    rw [hf] at pt
    have n1 := nin_ok E.toENIn (k := k - 1) (by omega) hl hbig S
    simp only
    cases hn : numIn l with
    | none =>
      rw [hn] at n1
      have t1 := th_ok E (k := k - 1) (by omega) 1 hl hb S
      refine ⟨.val (.str (sT l)), .val (.str (sT [])), .val (.str (sT [])), .no, ?_⟩
      simp [f_term_in, tailS, metTy, pt, qe0, E.ninH, n1, optI, nn_non, E.thH, t1]
    | some m =>
      rw [hn] at n1
      refine ⟨.val (.str (sT l)), .val (.str (sT [])), .val (.str (sT [])), .no, ?_⟩
      simp [f_term_in, tailS, metTy, pt, qe0, E.ninH, n1, optI, nn_int, big]
/-- a text is read to just the term that is so written -/
theorem ti_ok (E : ETIn N T) {k : Nat} (hk : 3 ≤ k) {l : List Nat} (hl : okL l = true) (hb : l.length ≤ 50000) (S : Sto) :
    (∃ t : Tm, t.ok ∧ tmL t = l ∧ callN N T k "term_in" [.str (sT l)] S = .ok (tmU t) S) ∨ ((∀ t : Tm, t.ok → tmL t ≠ l) ∧ callN N T k "term_in" [.str (sT l)] S = .ok .non S) := by
  rw [call_eq (by omega) E.tiT rfl]
  obtain ⟨a, b, c, d, e1⟩ := ti_raw E hk hl hb S
  obtain ⟨v, e2, h⟩ := ti_tail E hk hl S (raw_flat hl) a b c d
  have e3 : endU (evSs N (callN N T (k - 1)) f_term_in.body (startU f_term_in.names.length [.str (sT l)]) S) = .ok v S := by
    show endU (evSs N (callN N T (k - 1)) f_term_in.body [.val (.str (sT l)), .no, .no, .no, .no, .no, .no] S) = _
    rw [e1, e2]
    rfl
  rw [e3]
  rcases h with ⟨t, h1, h2, h3, rfl⟩ | ⟨h1, rfl⟩
  · exact .inl ⟨t, h1, h3, rfl⟩
  · exact .inr ⟨fun t ht e => h1 t ht (by rw [← e, raw_back ht]) e, rfl⟩
theorem ti_back (E : ETIn N T) {k : Nat} (hk : 3 ≤ k) {t : Tm} (ht : t.ok) (S : Sto) : callN N T k "term_in" [.str (sT (tmL t))] S = .ok (tmU t) S := by
  have hl := tmL_len ht
  rcases ti_ok E hk (tmL_ok ht) (by omega) S with ⟨s, h1, h2, h3⟩ | ⟨h1, _⟩
  · have : tmU s = tmU t := by rw [← raw_back h1, h2, raw_back ht]
    rw [h3, this]
  · exact absurd rfl (h1 t ht)
end
end Far.L

set_option Elab.async false
set_option linter.all false
set_option maxRecDepth 100000
set_option maxHeartbeats 4000000
/-! Formulas as texts. -/
namespace Far.L
open PySem PySem.Spec PyProof.Rows L2
def plusL : List Nat := [32, 43, 32]
def joinL : List (List Nat) → List Nat
  | [] => []
  | [x] => x
  | x :: y :: r => x ++ plusL ++ joinL (y :: r)
theorem join_sT : ∀ xs : List (List Nat), Str.join (sT plusL) (xs.map sT) = sT (joinL xs)
  | [] => rfl
  | [x] => rfl
  | x :: y :: r => by
    show sT x ++ sT plusL ++ Str.join (sT plusL) ((y :: r).map sT) = _
    rw [join_sT (y :: r), app_sT, app_sT]
    rfl
theorem tjoin_sT (xs : List (List Nat)) : Txt.join (sT plusL) (xs.map sT) = sT (joinL xs) := by
  show Builtin.Str.glued (sT plusL) (xs.map sT) = _
  rw [StrLaws.glued_eq_join]
  exact join_sT xs
theorem strs_map : ∀ xs : List (List Nat), strsOf (xs.map fun x => U.str (sT x)) = some (xs.map sT)
  | [] => rfl
  | x :: xs => by
    rw [List.map_cons, strsOf, strs_map xs]
    rfl
theorem sum_len {xs : List (List Nat)} {n : Nat} (h : ∀ x ∈ xs, x.length ≤ n) : ((xs.map sT).map (·.length)).sum ≤ xs.length * n := by
  induction xs with
  | nil => simp
  | cons x t ih =>
    have h1 := h x (by simp)
    have h2 := ih fun y hy => h y (by simp [hy])
    simp only [List.map_cons, List.sum_cons, len_sT, List.length_cons, Nat.succ_mul]
    omega
theorem met_join {xs : List (List Nat)} (h : ∀ x ∈ xs, x.length ≤ 1000) (hl : xs.length ≤ 50) : met .join (.str " + ") (.lst (xs.map fun x => U.str (sT x))) = some (.val (.str (sT (joinL xs)))) := by
  show ((strsOf (xs.map fun x => U.str (sT x))).bind fun ys => if (ys.map (·.length)).sum + ys.length * (Str.ofString " + ").length ≤ big then some (PR.val (.str (Txt.join (Str.ofString " + ") ys))) else none) = _
  rw [strs_map, Option.bind_some, t_plus]
  have := sum_len h
  rw [if_pos, show sT [32, 43, 32] = sT plusL from rfl, tjoin_sT]
  simp only [List.length_map, len_sT, List.length_cons, List.length_nil, big]
  have : xs.length * 1000 ≤ 50 * 1000 := Nat.mul_le_mul_right _ hl
  omega
theorem kind_plus : Builtin.Str.strKind (sT plusL) = 1 := by kernel_rfl
/-- split of what was joined -/
theorem split_join : ∀ {xs : List (List Nat)}, xs ≠ [] → (∀ x ∈ xs, 32 ∉ x) → Txt.split (sT (joinL xs)) (sT plusL) = xs.map sT
  | [], h, _ => absurd rfl h
  | [x], _, h => by
    rw [split_eq _ _ (by simp [plusL]) kind_plus]
    simp only [sL_sT, joinL]
    rw [show plusL = 32 :: [43, 32] from rfl, findL_free (h x (by simp))]
    rfl
  | x :: y :: r, _, h => by
    rw [split_eq _ _ (by simp [plusL]) kind_plus]
    simp only [sL_sT, joinL]
    rw [show plusL = 32 :: [43, 32] from rfl, findL_at (h x (by simp))]
    simp only
    rw [show (32 :: [43, 32]) = plusL from rfl, split_join (by simp) (fun z hz => h z (by simp [hz]))]
    rfl
theorem tm_no32 {t : Tm} (h : t.ok) : 32 ∉ tmL t := by
  have cg : ∀ {c : Nat}, cOk c → 97 ≤ c ∧ c ≤ 99 := fun {c} h => by rcases h with h | h | h <;> omega
  have n32 : ∀ i, 32 ∉ numL i := fun i => num_no (by omega) (by omega)
  have h32 : ∀ k, 32 ∉ headL k := fun k => by
    unfold headL
    split
    · simp
    · simp [n32]
  cases t with
  | one k => exact n32 k
  | gone k => simp [tmL, thgL, h32]
  | look k c b =>
    have := (cg h.2.1).1
    simp only [tmL, thgL]
    split
    · simp [h32]; omega
    · simp [h32, n32]; omega
  | at_ k c r =>
    have := (cg h.2.1).1
    simp [tmL, thgL, h32, n32]; omega
  | sum k c r b =>
    have := (cg h.2.1).1
    simp [tmL, thgL, h32, n32]; omega
  | total k c r b =>
    have := (cg h.2.1).1
    simp [tmL, thgL, h32, n32]; omega
theorem tm_no45 {t : Tm} (h : t.ok) : tmL t ≠ [45] := by
  intro e
  by_cases n1 : ∃ k, t = .one k
  · obtain ⟨k, rfl⟩ := n1
    have e1 := numIn_num (kOk.s h)
    have e2 : numL k = [45] := e
    rw [e2] at e1
    have e3 : numIn [45] = none := by decide
    rw [e3] at e1
    cases e1
  · have n1 : ∀ k, t ≠ .one k := fun k e => n1 ⟨k, e⟩
    obtain ⟨c, r, e1, e2, _⟩ := thg_head h n1
    have et : tmL t = headL t.k ++ thgL t := by
      cases t <;> first | rfl | exact absurd rfl (n1 _)
    have : c ∈ tmL t := by rw [et, e1]; simp
    rw [e] at this
    simp at this
    omega
def fmL (ts : List Tm) : List Nat := if ts = [] then [45] else joinL (ts.map tmL)
theorem join_mem : ∀ {xs : List (List Nat)} {c : Nat}, c ∈ joinL xs → c ∈ plusL ∨ ∃ x ∈ xs, c ∈ x
  | [x], c, h => .inr ⟨x, by simp, h⟩
  | x :: y :: r, c, h => by
    simp only [joinL, List.mem_append] at h
    rcases h with (h | h) | h
    · exact .inr ⟨x, by simp, h⟩
    · exact .inl h
    · rcases join_mem h with h | ⟨z, h1, h2⟩
      · exact .inl h
      · exact .inr ⟨z, by simp [h1], h2⟩
theorem join_ok {xs : List (List Nat)} (h : ∀ x ∈ xs, okL x = true) : okL (joinL xs) = true := by
  unfold okL
  rw [List.all_eq_true]
  intro c hc
  rcases join_mem hc with h1 | ⟨x, h1, h2⟩
  · simp [plusL] at h1
    rcases h1 with rfl | rfl | rfl <;> decide
  · exact (List.all_eq_true.mp (h x h1)) c h2
theorem join_len : ∀ {xs : List (List Nat)} {n : Nat}, (∀ x ∈ xs, x.length ≤ n) → (joinL xs).length ≤ xs.length * (n + 3)
  | [], _, _ => by simp [joinL]
  | [x], n, h => by
    have := h x (by simp)
    simp [joinL]
    omega
  | x :: y :: r, n, h => by
    have h1 := h x (by simp)
    have h2 := join_len (xs := y :: r) (n := n) fun z hz => h z (by simp [hz])
    simp only [joinL, List.length_append, plusL, List.length_cons, List.length_nil, Nat.succ_mul] at h2 ⊢
    omega
theorem fmL_ok {ts : List Tm} (h : ∀ t ∈ ts, t.ok) : okL (fmL ts) = true := by
  unfold fmL
  split
  · rfl
  · refine join_ok fun x hx => ?_
    obtain ⟨t, ht, rfl⟩ := List.mem_map.mp hx
    exact tmL_ok (h t ht)
theorem fmL_len {ts : List Tm} (h : ∀ t ∈ ts, t.ok) (hl : ts.length ≤ 5) : (fmL ts).length ≤ 500 := by
  unfold fmL
  split
  · simp
  · have := join_len (xs := ts.map tmL) (n := 80) fun x hx => by
      obtain ⟨t, ht, rfl⟩ := List.mem_map.mp hx
      exact tmL_len (h t ht)
    simp only [List.length_map] at this
    have : ts.length * (80 + 3) ≤ 5 * 83 := Nat.mul_le_mul_right _ hl
    omega
section
variable {N : Cn} {T : Str → Option LFun}
theorem ne_tup0 (S : Sto) : cop .ne S (.tup []) (.tup []) = some false := by kernel_rfl
theorem good_all {ts : List Tm} (h : ∀ t ∈ ts, t.ok) : (ts.map tmU).all (goodU letters) = true := by
  rw [List.all_eq_true]
  intro u hu
  obtain ⟨t, ht, rfl⟩ := List.mem_map.mp hu
  obtain ⟨ws, e1, e2⟩ := tm_good (h t ht)
  rw [e1]
  exact e2
theorem dat_flat {u : U} (h : flatU u = true) : ∃ d, U.data u = some d ∧ PyData.canLay0 d = true ∧ PyData.depth d = 0 := by
  cases u with
  | non => exact ⟨_, rfl, rfl, rfl⟩
  | int i => exact ⟨_, rfl, rfl, rfl⟩
  | str x => exact ⟨_, rfl, SeqAt.canLay_of_shaped h, rfl⟩
  | _ => cases h
theorem dats_flat : ∀ {ws : List U}, (∀ w ∈ ws, flatU w = true) → ∃ ds, U.datas ws = some ds ∧ PyData.canLayAll0 ds = true ∧ PyData.depthAll ds = 0
  | [], _ => ⟨[], rfl, rfl, rfl⟩
  | w :: ws, h => by
    obtain ⟨d, e1, e2, e3⟩ := dat_flat (h w (by simp))
    obtain ⟨ds, f1, f2, f3⟩ := dats_flat (ws := ws) fun v hv => h v (by simp [hv])
    refine ⟨d :: ds, ?_, ?_, ?_⟩
    · rw [U.datas, e1, f1]; rfl
    · rw [PyData.canLayAll0, e2, f2]; rfl
    · rw [PyData.depthAll, e3, f3]; rfl
theorem dat_term {u : U} (h : termU u = true) : ∃ ds, U.data u = some (.tuple ds) ∧ PyData.canLay0 (.tuple ds) = true ∧ PyData.depth (.tuple ds) = 1 := by
  obtain ⟨ws, rfl, hw⟩ := termU_of h
  obtain ⟨ds, f1, f2, f3⟩ := dats_flat hw
  refine ⟨ds, ?_, ?_, ?_⟩
  · rw [U.data, f1]; rfl
  · rw [PyData.canLay0, f2]
  · rw [PyData.depth, f3]
def isNonU : U → Bool
  | .non => true
  | _ => false
def firstNon : List U → Nat → Option Nat
  | [], _ => none
  | u :: us, n => if isNonU u = true then some n else firstNon us (n + 1)
theorem dats_found : ∀ {us : List U}, (∀ u ∈ us, u = .non ∨ termU u = true) → ∃ ds, U.datas us = some ds ∧ PyData.canLayAll0 ds = true ∧ PyData.depthAll ds ≤ 1 ∧ (ds.any fun z => PyData.eqv z .none) = us.any isNonU ∧ ∀ n, firstAt .none ds n = firstNon us n
  | [], _ => ⟨[], rfl, rfl, by decide, rfl, fun _ => rfl⟩
  | u :: us, h => by
    obtain ⟨ds, f1, f2, f3, f4, f5⟩ := dats_found (us := us) fun v hv => h v (by simp [hv])
    rcases h u (by simp) with rfl | hu
    · refine ⟨.none :: ds, ?_, ?_, ?_, ?_, fun n => ?_⟩
      · rw [U.datas, f1]; rfl
      · rw [PyData.canLayAll0, f2]; rfl
      · rw [PyData.depthAll]; simp [PyData.depth]; exact f3
      · simp [isNonU, PyData.eqv]
      · rw [firstAt, firstNon]; simp [isNonU, PyData.eqv]
    · obtain ⟨es, e1, e2, e3⟩ := dat_term hu
      have nn : isNonU u = false := by
        obtain ⟨ws, rfl, _⟩ := termU_of hu
        rfl
      refine ⟨.tuple es :: ds, ?_, ?_, ?_, ?_, fun n => ?_⟩
      · rw [U.datas, e1, f1]; rfl
      · rw [PyData.canLayAll0, e2, f2]; rfl
      · rw [PyData.depthAll, e3]; omega
      · rw [List.any_cons, List.any_cons, f4, nn]
        simp [PyData.eqv]
      · rw [firstAt, firstNon, nn, f5]
        simp [PyData.eqv]
theorem shaped_list {ds : List PyData} (h1 : PyData.canLayAll0 ds = true) (h2 : PyData.depthAll ds ≤ 1) : SeqAt.shaped (.list ds) = true := by
  show (PyData.canLay0 (.list ds) && decide (PyData.depth (.list ds) ≤ 64)) = true
  rw [PyData.canLay0, PyData.depth, h1, decide_eq_true (by omega)]
  rfl
theorem flat_all {us : List U} {vs : List V} (h : ∀ u ∈ us, u = .non ∨ termU u = true) (e : us.mapM flatV? = some vs) : ∀ u ∈ us, u = .non := by
  induction us generalizing vs with
  | nil => intro u hu; cases hu
  | cons w ws ih =>
    intro u hu
    rw [List.mapM_cons] at e
    rcases h w (by simp) with rfl | hw
    · cases e2 : ws.mapM flatV? with
      | none => rw [e2] at e; cases e
      | some vs' =>
        rcases List.mem_cons.mp hu with rfl | hu
        · rfl
        · exact ih (fun v hv => h v (by simp [hv])) e2 u hu
    · obtain ⟨xs, rfl, _⟩ := termU_of hw
      cases e
theorem mapM_non : ∀ n : Nat, (List.replicate n U.non).mapM flatV? = some (List.replicate n V.non)
  | 0 => rfl
  | n + 1 => by
    rw [List.replicate_succ, List.mapM_cons, mapM_non n]
    rfl
theorem in_non {us : List U} (h : ∀ u ∈ us, u = .non ∨ termU u = true) (S : Sto) : cop .isin S .non (.lst us) = some (us.any isNonU) := by
  show inL .non us = _
  unfold inL
  cases e : inFlat .non us with
  | none =>
    obtain ⟨ds, f1, f2, f3, f4, _⟩ := dats_found h
    show inDat .non us = _
    unfold inDat
    have e0 : U.data .non = some .none := rfl
    rw [e0, f1, Option.bind_some, Option.bind_some, if_pos, f4]
    rw [shaped_list f2 f3]
    rfl
  | some k =>
    unfold inFlat at e
    have e0 : flatV? .non = some .non := rfl
    rw [e0, Option.bind_some] at e
    cases e2 : us.mapM flatV? with
    | none => rw [e2] at e; cases e
    | some vs =>
      rw [e2] at e
      have hn := flat_all h e2
      have : us = List.replicate us.length .non := List.eq_replicate_iff.mpr ⟨rfl, hn⟩
      generalize us.length = n at this
      subst this
      rw [mapM_non n] at e2
      cases e2
      have : inV .non (List.replicate n V.non) = k := by simpa using e
      show some k = _
      rw [← this]
      congr 1
      unfold inV
      cases n with
      | zero => rfl
      | succ n => simp [List.replicate_succ, isNonU, eqV]
theorem ix_non {us : List U} (h : ∀ u ∈ us, u = .non ∨ termU u = true) : met .index (.lst us) .non = (firstNon us 0).map fun j => .val (.int (j : Nat)) := by
  obtain ⟨ds, f1, f2, f3, f4, f5⟩ := dats_found h
  show ((U.datas us).bind fun ds => (U.data .non).bind fun d => if (SeqAt.shaped (.list ds) && SeqAt.shaped d) = true then (firstAt d ds 0).map fun j => PR.val (.int (j : Nat)) else none) = _
  have e0 : U.data .non = some .none := rfl
  rw [e0, f1, Option.bind_some, Option.bind_some, if_pos, f5]
  rw [shaped_list f2 f3]
  rfl
end
end Far.L

set_option Elab.async false
set_option linter.all false
set_option maxRecDepth 100000
set_option maxHeartbeats 4000000
/-! formula_text, read_formula. -/
namespace Far.L
open PySem PySem.Spec PyProof.Rows L2
open Classical in
noncomputable def tIn (w : List Nat) : U := if h : ∃ t : Tm, t.ok ∧ tmL t = w then tmU h.choose else .non
theorem tIn_tm {t : Tm} (h : t.ok) : tIn (tmL t) = tmU t := by
  have he : ∃ s : Tm, s.ok ∧ tmL s = tmL t := ⟨t, h, rfl⟩
  unfold tIn
  rw [dif_pos he]
  have := he.choose_spec
  rw [← raw_back this.1, this.2, raw_back h]
theorem tIn_non {w : List Nat} (h : ∀ t : Tm, t.ok → tmL t ≠ w) : tIn w = .non := by
  unfold tIn
  rw [dif_neg]
  rintro ⟨t, h1, h2⟩
  exact h t h1 h2
theorem tIn_cases (w : List Nat) : (∃ t : Tm, t.ok ∧ tmL t = w ∧ tIn w = tmU t) ∨ ((∀ t : Tm, t.ok → tmL t ≠ w) ∧ tIn w = .non) := by
  by_cases h : ∃ t : Tm, t.ok ∧ tmL t = w
  · obtain ⟨t, h1, rfl⟩ := h
    exact .inl ⟨t, h1, rfl, tIn_tm h1⟩
  · have h' : ∀ t : Tm, t.ok → tmL t ≠ w := fun t h1 h2 => h ⟨t, h1, h2⟩
    exact .inr ⟨h', tIn_non h'⟩
theorem tIn_found (w : List Nat) : tIn w = .non ∨ termU (tIn w) = true := by
  rcases tIn_cases w with ⟨t, h1, _, e⟩ | ⟨_, e⟩
  · exact .inr (by rw [e]; exact tm_flat h1)
  · exact .inl e
section
variable {N : Cn} {T : Str → Option LFun}
theorem ti_in (E : ETIn N T) {k : Nat} (hk : 3 ≤ k) {l : List Nat} (hl : okL l = true) (hb : l.length ≤ 50000) (S : Sto) : callN N T k "term_in" [.str (sT l)] S = .ok (tIn l) S := by
  rcases ti_ok E hk hl hb S with ⟨t, h1, h2, h3⟩ | ⟨h1, h2⟩
  · rw [h3, ← h2, tIn_tm h1]
  · rw [h2, tIn_non h1]
theorem all_tm {ts : List Tm} (h : ∀ t ∈ ts, t.ok) : ∀ u ∈ ts.map tmU, termU u = true := fun u hu => by
  obtain ⟨t, ht, rfl⟩ := List.mem_map.mp hu
  exact tm_flat (h t ht)
theorem ne_tup {t : Tm} {ts : List Tm} (h : ∀ s ∈ t :: ts, s.ok) (S : Sto) : cop .ne S (.tup ((t :: ts).map tmU)) (.tup []) = some true := by
  obtain ⟨ds, f1, f2, f3, _, _⟩ := dats_found (us := (t :: ts).map tmU) fun u hu => .inr (all_tm h u hu)
  have hd : U.data (.tup ((t :: ts).map tmU)) = some (.tuple ds) := by rw [U.data, f1]; rfl
  have hs : SeqAt.shaped (.tuple ds) = true := by
    show (PyData.canLay0 (.tuple ds) && decide (PyData.depth (.tuple ds) ≤ 64)) = true
    rw [PyData.canLay0, PyData.depth, f2, decide_eq_true (by omega)]
    rfl
  show (((U.data (.tup ((t :: ts).map tmU))).bind fun d => (U.data (.tup [])).bind fun e => if (SeqAt.shaped d && SeqAt.shaped e) = true then some (PyData.eqv d e) else none)).map (!·) = _
  have h0 : U.data (.tup []) = some (.tuple []) := rfl
  have hs0 : SeqAt.shaped (.tuple []) = true := rfl
  rw [hd, h0, Option.bind_some, Option.bind_some, hs, hs0]
  cases ds with
  | nil =>
    rw [List.map_cons, U.datas] at f1
    obtain ⟨es, e1, _, _⟩ := dat_term (tm_flat (h t (by simp)))
    rw [e1] at f1
    cases e2 : U.datas (ts.map tmU) <;> rw [e2] at f1 <;> cases f1
  | cons d ds =>
    show some (!PyData.eqv (.tuple (d :: ds)) (.tuple [])) = _
    have : PyData.eqv (.tuple (d :: ds)) (.tuple []) = false := by
      rw [PyData.eqv]
      rfl
    rw [this]
    rfl
theorem lc_mapG {α : Type} {turn : U → Sto → R (Option U)} (g f : α → U) (S : Sto) : ∀ (xs : List α) (acc : List U), (∀ x ∈ xs, turn (g x) S = .ok (some (f x)) S) → evLc turn (xs.map g) acc S = .ok (.lst (acc ++ xs.map f)) S
  | [], acc, _ => by rw [List.map_nil, evLc, List.map_nil, List.append_nil]
  | x :: xs, acc, ht => by
    rw [List.map_cons, evLc, ht x (by simp)]
    simp only [R.bindN_ok]
    rw [lc_mapG g f S xs (acc ++ [f x]) (fun w hw => ht w (by simp [hw]))]
    simp
/-- a good formula's text -/
theorem ft_ok (E : EFTx N T) {k : Nat} (hk : 4 ≤ k) {ts : List Tm} (h : ∀ t ∈ ts, t.ok) (hl : ts.length ≤ 5) (S : Sto) : callN N T k "formula_text" [.tup (ts.map tmU)] S = .ok (.str (sT (fmL ts))) S := by
  rw [call_eq (by omega) E.ftT rfl]
  have nd := need_ok E.toENeed (k := k - 1) (by omega) (c := .tup letters) (names := letters) (.inr rfl) let_flat S (fs := ts.map tmU) (all_tm h) (by simpa using hl)
  rw [if_pos (good_all h)] at nd
  cases ts with
  | nil =>
    simp at nd
    simp [f_formula_text, startU, E.gLet, E.needH, nd, big, ne_tup0, fmL, t_dash, endU]
  | cons t ts =>
    have hne := ne_tup h S
    have lc := lc_mapG (turn := lcTurn N (callN N T (k - 1)) [.val (.tup ((t :: ts).map tmU)), .no] [1] (.nm 1) .non (.call "term_text" (.cons (.v 1) .nil))) tmU (fun s => U.str (sT (tmL s))) S (t :: ts) [] (fun s hs => by
      have tt := tt_ok E.toETxt (k := k - 1) (by omega) (h s hs) S
      simp [lcTurn, wipeS, E.ttH, tt])
    have mj := met_join (xs := (t :: ts).map tmL) (fun x hx => by
      obtain ⟨s, hs, rfl⟩ := List.mem_map.mp hx
      have := tmL_len (h s hs)
      omega) (by simp at hl ⊢; omega)
    have e1 : ((t :: ts).map tmL).map (fun x => U.str (sT x)) = (t :: ts).map fun s => U.str (sT (tmL s)) := by rw [List.map_map]; rfl
    rw [e1] at mj
    have hb : ((t :: ts).map tmU).length ≤ big := by simp [big] at hl ⊢; omega
    have ef : fmL (t :: ts) = joinL ((t :: ts).map tmL) := by unfold fmL; rw [if_neg (by simp)]
    rw [ef]
    generalize hU : (t :: ts).map tmU = us at *
    generalize hX : (t :: ts).map (fun s => U.str (sT (tmL s))) = xs at *
    have hb' : us.length ≤ 100000 := hb
    simp only [List.map_cons] at mj
    simp [f_formula_text, startU, E.gLet, E.needH, nd, hne, metTy, lc, hb', mj, endU, big]
/-- read_formula, word by word -/
theorem rd_gen (E : ERead N T) {k : Nat} (hk : 4 ≤ k) {l : List Nat} (hl : okL l = true) (hb : l.length ≤ 50000) (hm : l ≠ [45]) {ws : List (List Nat)} (hs : Txt.split (sT l) (sT plusL) = ws.map sT) (hw : ∀ w ∈ ws, okL w = true ∧ w.length ≤ 50000) (S : Sto) :
    callN N T k "read_formula" [.str (sT l)] S = if ((ws.take 5).map tIn).any isNonU = true then (match firstNon ((ws.take 5).map tIn) 0 with
      | some j => .exc ⟨"BadText", [("word", .str "badtext"), ("at", .int (j : Nat))]⟩ S
      | none => .bad) else if 5 < ws.length then .exc ⟨"BadText", [("word", .str "badtext"), ("at", .int 5)]⟩ S else .ok (.tup ((ws.take 5).map tIn)) S := by
  rw [call_eq (by omega) E.rdT rfl]
  have q0 := eq_lit t_dash hl (by decide) S
  rw [decide_eq_false hm] at q0
  have sp : met .split (.str (sT l)) (.str " + ") = some (.newL (ws.map fun w => U.str (sT w))) := by
    rw [t_plus, split_sT (by decide) (by simp [big]; omega), show sT [32, 43, 32] = sT plusL from rfl, hs, List.map_map]
    rfl
  have ct : cut S (.lst (ws.map fun w => U.str (sT w))) none (some 5) = some (.newL ((ws.take 5).map fun w => U.str (sT w))) := by
    show some (PR.newL (cutL (ws.map fun w => U.str (sT w)) none (some 5))) = _
    congr 2
    unfold cutL
    have e1 : ∀ n : Nat, HT.sIx n n (some 5) = min 5 n := fun n => by
      unfold HT.sIx
      simp only
      rw [if_neg (by omega)]
      rfl
    have e2 : ∀ n : Nat, HT.sIx n 0 none = 0 := fun n => rfl
    rw [e1, e2, List.drop_zero, Nat.sub_zero, List.map_take]
    by_cases z : 5 ≤ (ws.map fun w => U.str (sT w)).length
    · rw [Nat.min_eq_left z]
    · rw [Nat.min_eq_right (by omega), List.take_length, List.take_of_length_le (by omega)]
  have lc := lc_mapG (turn := lcTurn N (callN N T (k - 1)) [.val (.str (sT l)), .val (.lst (ws.map fun w => U.str (sT w))), .no, .no] [3] (.nm 3) .non (.call "term_in" (.cons (.v 3) .nil))) (fun w => U.str (sT w)) tIn S (ws.take 5) [] (fun w hw' => by
    obtain ⟨o1, o2⟩ := hw w (List.mem_of_mem_take hw')
    have ti := ti_in E.toETIn (k := k - 1) (by omega) o1 o2 S
    simp [lcTurn, wipeS, E.tiH, ti])
  have hfd : ∀ u ∈ (ws.take 5).map tIn, u = .non ∨ termU u = true := fun u hu => by
    obtain ⟨w, _, rfl⟩ := List.mem_map.mp hu
    exact tIn_found w
  have hin := in_non hfd S
  have hix := ix_non hfd
  have hlen : ((ws.take 5).map fun w => U.str (sT w)).length ≤ big := by simp [big]; omega
  have lw : fnc .len S [.lst (ws.map fun w => U.str (sT w))] = some (.val (.int ws.length)) := by rw [len_lst]; simp
  have tp : fnc .tuple S [.lst ((ws.take 5).map tIn)] = some (.val (.tup ((ws.take 5).map tIn))) := rfl
  generalize (ws.take 5).map tIn = fd at *
  generalize hX : (ws.take 5).map (fun w => U.str (sT w)) = xs at *
  generalize hY : ws.map (fun w => U.str (sT w)) = ys at *
  simp only [List.nil_append] at lc
  cases ha : fd.any isNonU with
  | true =>
    rw [ha] at hin
    cases hj : firstNon fd 0 with
    | none =>
      exfalso
      have : ∀ (us : List U) (n : Nat), us.any isNonU = true → firstNon us n ≠ none := by
        intro us
        induction us with
        | nil => intro n h; cases h
        | cons u us ih =>
          intro n h e
          rw [firstNon] at e
          split at e
          · cases e
          · rename_i c
            rw [List.any_cons] at h
            simp at c
            rw [c] at h
            exact ih (n + 1) (by simpa using h) e
      exact this fd 0 ha hj
    | some j =>
      rw [hj] at hix
      have hix2 : met .index (.lst fd) .non = some (.val (.int (j : Nat))) := hix
      simp [f_read_formula, startU, q0, metTy, sp, E.gTerms, ct, hlen, lc, hin, hix2, E.xmT, endU]
  | false =>
    rw [ha] at hin
    by_cases z : 5 < ws.length
    · have z2 : (5 : Int) < ws.length := by omega
      simp [f_read_formula, startU, q0, metTy, sp, E.gTerms, ct, hlen, lc, hin, lw, z2, z, E.xmT, endU]
    · have z2 : ¬ (5 : Int) < ws.length := by omega
      simp [f_read_formula, startU, q0, metTy, sp, E.gTerms, ct, hlen, lc, hin, lw, z2, z, tp, endU]
/-- what was written is read again -/
theorem rd_back (E : ERead N T) {k : Nat} (hk : 4 ≤ k) {ts : List Tm} (h : ∀ t ∈ ts, t.ok) (hl : ts.length ≤ 5) (S : Sto) : callN N T k "read_formula" [.str (sT (fmL ts))] S = .ok (.tup (ts.map tmU)) S := by
  cases ts with
  | nil =>
    rw [call_eq (by omega) E.rdT rfl]
    have q0 := eq_lit (a := [45]) t_dash (by decide) (by decide) S
    rw [decide_eq_true rfl] at q0
    simp [f_read_formula, startU, fmL, q0, endU, big]
  | cons t ts =>
    have ef : fmL (t :: ts) = joinL ((t :: ts).map tmL) := by unfold fmL; rw [if_neg (by simp)]
    have hm : fmL (t :: ts) ≠ [45] := by
      rw [ef]
      cases ts with
      | nil => exact tm_no45 (h t (by simp))
      | cons s ts =>
        intro e
        have : (32 : Nat) ∈ joinL ((t :: s :: ts).map tmL) := by simp [joinL, plusL]
        rw [e] at this
        simp at this
    have hs : Txt.split (sT (fmL (t :: ts))) (sT plusL) = ((t :: ts).map tmL).map sT := by
      rw [ef]
      exact split_join (by simp) fun x hx => by
        obtain ⟨s, hs, rfl⟩ := List.mem_map.mp hx
        exact tm_no32 (h s hs)
    have l5 := fmL_len h hl
    rw [rd_gen E hk (fmL_ok h) (by omega) hm hs (fun w hw => by
      obtain ⟨s, hs, rfl⟩ := List.mem_map.mp hw
      have := tmL_len (h s hs)
      exact ⟨tmL_ok (h s hs), by omega⟩) S]
    have e1 : (((t :: ts).map tmL).take 5).map tIn = (t :: ts).map tmU := by
      rw [List.take_of_length_le (by simpa using hl), List.map_map]
      apply List.map_congr_left
      intro s hs
      exact tIn_tm (h s hs)
    rw [e1, if_neg, if_neg (by simp at hl ⊢; omega)]
    intro z
    rw [List.any_eq_true] at z
    obtain ⟨u, hu, hz⟩ := z
    obtain ⟨ws, rfl, _⟩ := termU_of (all_tm h u hu)
    cases hz
end
end Far.L

set_option Elab.async false
set_option linter.all false
set_option maxRecDepth 100000
set_option maxHeartbeats 4000000
/-! Drawn terms and formulas, with their bounds. -/
namespace Far.L
open PySem PySem.Spec PyProof.Rows L2
section
variable {N : Cn} {T : Str → Option LFun}
theorem times_k (E : ETerm N T) {k : Nat} (hk : 3 ≤ k) {o : SO} {R : Sto} (h : Bg o) : ∃ t o', callN N T k "_law_times" [.ref 0] (o :: R) = .ok (.int t) (o' :: R) ∧ kOk t ∧ Bg o' := by
  obtain ⟨r1, o1, e1, p1, q1, b1⟩ := pull_ok E.toEPull (k := k - 1) (by omega) (R := R) h (m := 999) (by omega) (by omega)
  obtain ⟨r2, o2, e2, p2, q2, b2⟩ := pull_ok E.toEPull (k := k - 1) (by omega) (R := R) b1 (m := 999) (by omega) (by omega)
  obtain ⟨u, o3, e3, m3, b3⟩ := of_ok E.toEOf (k := k - 1) (by omega) (R := R) b2 (us := [.int 1, .int 1, .int 2, .int (-1), .int 3, .int (-2), .int 0, .int (1 + r1), .int (0 - 1 - r2)]) (by simp) (by simp)
  have hu : ∃ t, u = .int t ∧ kOk t := by
    simp only [List.mem_cons, List.not_mem_nil, or_false] at m3
    rcases m3 with h | h | h | h | h | h | h | h | h <;> exact ⟨_, h, by constructor <;> omega⟩
  obtain ⟨t, rfl, ht⟩ := hu
  refine ⟨t, o3, ?_, ht, b3⟩
  rw [call_eq (by omega) E.timesT rfl]
  simp at e3
  simp [f_law_times, startU, E.pullH, E.ofH, e1, e2, e3, endU, big]
/-- names are letters -/
def Names (us : List U) : Prop := us ≠ [] ∧ us.length < 100000 ∧ ∀ u ∈ us, ∃ c, cOk c ∧ u = .str (sT [c])
theorem names_abc : Names letters := by
  refine ⟨by simp, by simp, fun u hu => ?_⟩
  simp at hu
  rcases hu with rfl | rfl | rfl
  · exact ⟨97, .inl rfl, by rw [t_la]⟩
  · exact ⟨98, .inr (.inl rfl), by rw [t_lbb]⟩
  · exact ⟨99, .inr (.inr rfl), by rw [t_lcc]⟩
theorem term_tm (E : ETerm N T) {k : Nat} (hk : 4 ≤ k) {o : SO} {R : Sto} (h : Bg o) {us : List U} (hn : Names us) {near : Int} (h4 : 0 < near) (h5 : near ≤ 1000000000000000) :
    ∃ s o', callN N T k "_law_term" [.ref 0, .lst us, .int near] (o :: R) = .ok (tmU s) (o' :: R) ∧ s.ok ∧ Bg o' := by
  obtain ⟨h1, h2, h3⟩ := hn
  obtain ⟨kd, o1, e1, _, _, b1⟩ := pull_ok E.toEPull (k := k - 1) (by omega) (R := R) h (m := 12) (by omega) (by omega)
  obtain ⟨t, o2, e2, kt, b2⟩ := times_k E (k := k - 1) (by omega) (R := R) b1
  obtain ⟨nm, o3, e3, m3, b3⟩ := of_ok E.toEOf (k := k - 1) (by omega) (R := R) b2 h1 h2
  obtain ⟨c, hc, rfl⟩ := h3 nm m3
  rw [call_eq (by omega) E.termT rfl]
  by_cases c1 : kd < 3
  · refine ⟨.one t, o3, ?_, kt, b3⟩
    simp [f_law_term, startU, E.pullH, E.ofH, E.timesH, e1, e2, e3, endU, big, setVals, c1, tmU]
  by_cases c2 : kd < 8
  · obtain ⟨u, o4, e4, m4, b4⟩ := of_ok E.toEOf (k := k - 1) (by omega) (R := R) b3 (us := [.int (-1), .int 0, .int (-1), .int 1]) (by simp) (by simp)
    have hu : ∃ b, u = .int b ∧ bOk b := by
      simp only [List.mem_cons, List.not_mem_nil, or_false] at m4
      rcases m4 with h | h | h | h <;> exact ⟨_, h, by constructor <;> omega⟩
    obtain ⟨b, rfl, hb⟩ := hu
    refine ⟨.look t c b, o4, ?_, ⟨kt, hc, hb⟩, b4⟩
    simp [f_law_term, startU, E.pullH, E.ofH, E.timesH, e1, e2, e3, e4, endU, big, setVals, c1, c2, tmU]
  by_cases c3 : kd = 8
  · obtain ⟨u, o4, e4, m4, b4⟩ := of_ok E.toEOf (k := k - 1) (by omega) (R := R) b3 (us := [.int 0, .int 2]) (by simp) (by simp)
    obtain ⟨v, o5, e5, m5, b5⟩ := of_ok E.toEOf (k := k - 1) (by omega) (R := R) b4 (us := [.int (-1), .int (-1), .int 0, .int 1]) (by simp) (by simp)
    have hu : ∃ b, u = .int b ∧ rOk b := by
      simp only [List.mem_cons, List.not_mem_nil, or_false] at m4
      rcases m4 with h | h <;> exact ⟨_, h, by constructor <;> omega⟩
    have hv : ∃ b, v = .int b ∧ bOk b := by
      simp only [List.mem_cons, List.not_mem_nil, or_false] at m5
      rcases m5 with h | h | h | h <;> exact ⟨_, h, by constructor <;> omega⟩
    obtain ⟨r, rfl, hr⟩ := hu
    obtain ⟨b, rfl, hb⟩ := hv
    refine ⟨.sum t c r b, o5, ?_, ⟨kt, hc, hr, hb⟩, b5⟩
    simp [f_law_term, startU, E.pullH, E.ofH, E.timesH, e1, e2, e3, e4, e5, endU, big, setVals, c3, tmU]
  by_cases c4 : kd = 9
  · obtain ⟨u, o4, e4, m4, b4⟩ := of_ok E.toEOf (k := k - 1) (by omega) (R := R) b3 (us := [.int 0, .int 2]) (by simp) (by simp)
    obtain ⟨v, o5, e5, v0, v1, b5⟩ := pull_ok E.toEPull (k := k - 1) (by omega) (R := R) b4 h4 (by omega)
    have hu : ∃ b, u = .int b ∧ rOk b := by
      simp only [List.mem_cons, List.not_mem_nil, or_false] at m4
      rcases m4 with h | h <;> exact ⟨_, h, by constructor <;> omega⟩
    obtain ⟨r, rfl, hr⟩ := hu
    refine ⟨.total t c r (v - 1), o5, ?_, ⟨kt, hc, hr, by omega, by omega⟩, b5⟩
    simp [f_law_term, startU, E.pullH, E.ofH, E.timesH, e1, e2, e3, e4, e5, endU, big, setVals, c4, tmU]
  by_cases c5 : kd = 10
  · obtain ⟨x, o4, e4, _, _, b4⟩ := pull_ok E.toEPull (k := k - 1) (by omega) (R := R) b3 (m := 6) (by omega) (by omega)
    by_cases c6 : x = 0
    · refine ⟨.gone t, o4, ?_, kt, b4⟩
      simp [f_law_term, startU, E.pullH, E.ofH, E.timesH, e1, e2, e3, e4, endU, big, setVals, c5, c6, tmU]
    · obtain ⟨v, o5, e5, v0, v1, b5⟩ := pull_ok E.toEPull (k := k - 1) (by omega) (R := R) b4 h4 (by omega)
      refine ⟨.at_ t c v, o5, ?_, ⟨kt, hc, by omega, by omega⟩, b5⟩
      simp [f_law_term, startU, E.pullH, E.ofH, E.timesH, e1, e2, e3, e4, e5, endU, big, setVals, c5, c6, tmU]
  · obtain ⟨v, o5, e5, v0, v1, b5⟩ := pull_ok E.toEPull (k := k - 1) (by omega) (R := R) b3 h4 (by omega)
    refine ⟨.at_ t c v, o5, ?_, ⟨kt, hc, by omega, by omega⟩, b5⟩
    simp [f_law_term, startU, E.pullH, E.ofH, E.timesH, e1, e2, e3, e5, endU, big, setVals, c1, c2, c3, c4, c5, tmU]
/-- the turns of a comprehension that draws terms -/
theorem lc_tms {turn : U → Sto → R (Option U)} (I : Sto → Prop) : ∀ (us acc : List U) (S : Sto), (∀ u ∈ us, ∀ S, I S → ∃ s S', turn u S = .ok (some (tmU s)) S' ∧ s.ok ∧ I S') → I S → ∃ (ts : List Tm) (S' : Sto), evLc turn us acc S = .ok (.lst (acc ++ ts.map tmU)) S' ∧ ts.length = us.length ∧ (∀ t ∈ ts, t.ok) ∧ I S'
  | [], acc, S, _, h => ⟨[], S, by rw [evLc, List.map_nil, List.append_nil], rfl, by simp, h⟩
  | u :: us, acc, S, ht, h => by
    obtain ⟨s, S1, e1, p1, h1⟩ := ht u (by simp) S h
    obtain ⟨ts, S2, e2, l2, p2, h2⟩ := lc_tms I us (acc ++ [tmU s]) S1 (fun w hw => ht w (by simp [hw])) h1
    refine ⟨s :: ts, S2, ?_, by simp [l2], fun x hx => ?_, h2⟩
    · rw [evLc, e1]
      simp only [R.bindN_ok]
      rw [e2]
      simp
    · rcases List.mem_cons.mp hx with rfl | hx
      · exact p1
      · exact p2 x hx
theorem form_tm (E : EForm N T) {k : Nat} (hk : 5 ≤ k) {o : SO} {R : Sto} (h : Bg o) {us : List U} (hn : Names us) {near : Int} (h4 : 0 < near) (h5 : near ≤ 1000000000000000) :
    ∃ (ts : List Tm) (o' : SO), callN N T k "_law_formula" [.ref 0, .lst us, .int near] (o :: R) = .ok (.tup (ts.map tmU)) (o' :: R) ∧ (∀ t ∈ ts, t.ok) ∧ ts.length ≤ 3 ∧ Bg o' := by
  obtain ⟨u, o1, e1, m1, b1⟩ := of_ok E.toEOf (k := k - 1) (by omega) (R := R) h (us := [.int 1, .int 2, .int 1, .int 3, .int 0, .int 2]) (by simp) (by simp)
  have hu : ∃ j : Int, u = .int j ∧ 0 ≤ j ∧ j ≤ 3 := by
    simp only [List.mem_cons, List.not_mem_nil, or_false] at m1
    rcases m1 with h | h | h | h | h | h <;> exact ⟨_, h, by decide, by decide⟩
  obtain ⟨j, rfl, j0, j3⟩ := hu
  rw [call_eq (by omega) E.formT rfl]
  obtain ⟨ts, S2, e2, l2, p2, o2, rfl, b2⟩ := lc_tms (turn := lcTurn N (callN N T (k - 1)) [.val (.ref 0), .val (.lst us), .val (.int near), .no] [3] (.nm 3) .non (.call "_law_term" (.cons (.v 0) (.cons (.v 1) (.cons (.v 2) .nil))))) (fun S => ∃ o, S = o :: R ∧ Bg o) (rangeU 0 j) [] (o1 :: R) (fun x hx S hS => by
    obtain ⟨o, rfl, b⟩ := hS
    obtain ⟨s, o', e, f, b'⟩ := term_tm E.toETerm (k := k - 1) (by omega) (R := R) b hn h4 h5
    exact ⟨s, o' :: R, by simp [lcTurn, wipeS, E.termH, e], f, o', rfl, b'⟩) ⟨o1, rfl, b1⟩
  have hr : (rangeU 0 j).length = j.toNat := by simp [rangeU]
  refine ⟨ts, o2, ?_, p2, by rw [l2, hr]; omega, b2⟩
  have c1 : j < 100000 := by omega
  have c2 : (-100000000000000000 : Int) < j := by omega
  have hb : (rangeU 0 j).length ≤ 100000 := by rw [hr]; omega
  simp only [List.nil_append] at e2
  have et : fnc .tuple (o2 :: R) [.lst (ts.map tmU)] = some (.val (.tup (ts.map tmU))) := rfl
  simp [f_law_formula, startU, E.ofH, e1, c1, c2, hb, e2, et, endU, big]
end
end Far.L

set_option Elab.async false
set_option linter.all false
set_option maxRecDepth 100000
set_option maxHeartbeats 4000000
namespace Far.K02
open PySem PySem.Spec PyProof.Rows L2 Far.L
def top (i : Nat) : Stmt := PySem.Challenge.pw_farsheet_k02_texts_of_no_formula.main.body.getD i (.Pass ⟨0, 0, 0, 0⟩)
/-! ### the defs -/
def f_law_term_text : LFun := ⟨["_law_term_here"], ["_law_term_here", "_law_head", "_law_last"], (.cons (.ite (.cmp .eq (.sub (.v 0) (.c (.int 0))) (.c (.str "one"))) (.cons (.ret (.fn .str (.sub (.v 0) (.c (.int 1)))))
    .nil) .nil)
  (.cons (.asg (.nm 1) (.ite (.cmp .eq (.sub (.v 0) (.c (.int 1))) (.c (.int 1))) (.c (.str "")) (.op .add (.fn .str (.sub (.v 0) (.c (.int 1)))) (.c (.str "*")))))
  (.cons (.ite (.cmp .eq (.sub (.v 0) (.c (.int 0))) (.c (.str "gone"))) (.cons (.ret (.op .add (.v 1) (.c (.str "gone"))))
    .nil) .nil)
  (.cons (.ite (.cmp .eq (.sub (.v 0) (.c (.int 0))) (.c (.str "look"))) (.cons (.ret (.op .add (.op .add (.v 1) (.sub (.v 0) (.c (.int 2)))) (.ite (.cmp .eq (.sub (.v 0) (.c (.int 3))) (.c (.int 0))) (.c (.str "")) (.op .add (.op .add (.c (.str "[")) (.fn .str (.sub (.v 0) (.c (.int 3))))) (.c (.str "]"))))))
    .nil) .nil)
  (.cons (.ite (.cmp .eq (.sub (.v 0) (.c (.int 0))) (.c (.str "at"))) (.cons (.ret (.op .add (.op .add (.op .add (.v 1) (.sub (.v 0) (.c (.int 2)))) (.c (.str "@"))) (.fn .str (.sub (.v 0) (.c (.int 3))))))
    .nil) .nil)
  (.cons (.asg (.nm 2) (.ite (.cmp .eq (.sub (.v 0) (.c (.int 0))) (.c (.str "sum"))) (.op .add (.op .add (.c (.str "[")) (.fn .str (.sub (.v 0) (.c (.int 4))))) (.c (.str "]"))) (.fn .str (.sub (.v 0) (.c (.int 4))))))
  (.cons (.ret (.op .add (.op .add (.op .add (.op .add (.op .add (.v 1) (.sub (.v 0) (.c (.int 2)))) (.c (.str "@"))) (.fn .str (.sub (.v 0) (.c (.int 3))))) (.c (.str ".."))) (.v 2)))
  .nil)))))))⟩
def f_law_text : LFun := ⟨["_law_formula_here"], ["_law_formula_here", "_law_term_here"], (.cons (.ret (.ite (.cmp .ne (.v 0) (.tup .nil)) (.m1 .join (.c (.str " + ")) (.lc [1] (.nm 1) (.seq (.v 0)) .non (.call "_law_term_text" (.cons (.v 1) .nil)))) (.c (.str "-"))))
  .nil)⟩
def f_law_told : LFun := ⟨["_law_text_here"], ["_law_text_here", "_law_found", "e"], (.cons (.asg (.nm 1) (.c .non))
  (.cons (.tri (.cons (.asg (.nm 1) (.tup (.cons (.c (.str "told")) (.cons (.call "read_formula" (.cons (.v 0) .nil)) .nil))))
    .nil) ["BadText"] (some 2) (.asg 1 (.tup [(.c (.str "BadText")), (.xf "at")])))
  (.cons (.ret (.v 1))
  .nil)))⟩
def f_law_is_plain : LFun := ⟨["_law_text_here", "_law_low", "_law_high"], ["_law_text_here", "_law_low", "_law_high", "_law_figures", "_law_sign"], (.cons (.asg (.nm 3) (.ite (.cmp .eq (.slc (.v 0) .non (.som (.c (.int 1)))) (.c (.str "-"))) (.slc (.v 0) (.som (.c (.int 1))) .non) (.v 0)))
  (.cons (.ite (.or (.cmp .eq (.v 3) (.c (.str ""))) (.or (.cmp .gt (.fn .len (.v 3)) (.c (.int 16))) (.not (.e (.fn .all (.lc [4] (.nm 4) (.seq (.v 3)) .non (.cmp .isin (.v 4) (.c (.str "0123456789"))))))))) (.cons (.ret (.c (.bl false)))
    .nil) .nil)
  (.cons (.ret (.and (.cmp .eq (.v 0) (.fn .str (.fn .int (.v 0)))) (.chn .le .le (.v 1) (.fn .int (.v 0)) (.v 2))))
  .nil)))⟩
def f_law_is_thing : LFun := ⟨["_law_text_here"], ["_law_text_here", "_law_rest", "_law_words"], (.cons (.ite (.cmp .eq (.v 0) (.c (.str "gone"))) (.cons (.ret (.c (.bl true)))
    .nil) .nil)
  (.cons (.ite (.cmp .notin (.slc (.v 0) .non (.som (.c (.int 1)))) (.lst (.cons (.c (.str "a")) (.cons (.c (.str "b")) (.cons (.c (.str "c")) .nil))))) (.cons (.ret (.c (.bl false)))
    .nil) .nil)
  (.cons (.asg (.nm 1) (.slc (.v 0) (.som (.c (.int 1))) .non))
  (.cons (.ite (.cmp .isin (.v 1) (.lst (.cons (.c (.str "")) (.cons (.c (.str "[-1]")) (.cons (.c (.str "[1]")) .nil))))) (.cons (.ret (.c (.bl true)))
    .nil) .nil)
  (.cons (.ite (.cmp .ne (.slc (.v 1) .non (.som (.c (.int 1)))) (.c (.str "@"))) (.cons (.ret (.c (.bl false)))
    .nil) .nil)
  (.cons (.asg (.nm 2) (.m1 .split (.slc (.v 1) (.som (.c (.int 1))) .non) (.c (.str ".."))))
  (.cons (.ite (.cmp .eq (.fn .len (.v 2)) (.c (.int 1))) (.cons (.ret (.call "_law_is_plain" (.cons (.sub (.v 2) (.c (.int 0))) (.cons (.c (.int 0)) (.cons (.op .pow (.c (.int 10)) (.c (.int 15))) .nil)))))
    .nil) .nil)
  (.cons (.ite (.or (.cmp .gt (.fn .len (.v 2)) (.c (.int 2))) (.not (.e (.call "_law_is_plain" (.cons (.sub (.v 2) (.c (.int 0))) (.cons (.c (.int 0)) (.cons (.op .pow (.c (.int 10)) (.c (.int 15))) .nil))))))) (.cons (.ret (.c (.bl false)))
    .nil) .nil)
  (.cons (.ret (.or (.cmp .isin (.sub (.v 2) (.c (.int 1))) (.lst (.cons (.c (.str "[-1]")) (.cons (.c (.str "[0]")) (.cons (.c (.str "[1]")) .nil))))) (.call "_law_is_plain" (.cons (.sub (.v 2) (.c (.int 1))) (.cons (.neg (.c (.int 1))) (.cons (.op .pow (.c (.int 10)) (.c (.int 15))) .nil))))))
  .nil)))))))))⟩
def f_law_is_term : LFun := ⟨["_law_text_here"], ["_law_text_here", "_law_words"], (.cons (.ite (.or (.e (.call "_law_is_plain" (.cons (.v 0) (.cons (.neg (.c (.int 999))) (.cons (.c (.int 999)) .nil))))) (.e (.call "_law_is_thing" (.cons (.v 0) .nil)))) (.cons (.ret (.c (.bl true)))
    .nil) .nil)
  (.cons (.asg (.nm 1) (.m1 .split (.v 0) (.c (.str "*"))))
  (.cons (.ret (.and (.cmp .eq (.fn .len (.v 1)) (.c (.int 2))) (.and (.cmp .ne (.sub (.v 1) (.c (.int 0))) (.c (.str "1"))) (.and (.call "_law_is_plain" (.cons (.sub (.v 1) (.c (.int 0))) (.cons (.neg (.c (.int 999))) (.cons (.c (.int 999)) .nil)))) (.call "_law_is_thing" (.cons (.sub (.v 1) (.c (.int 1))) .nil))))))
  .nil)))⟩
def f_law_wrong : LFun := ⟨["_law_text_here"], ["_law_text_here", "_law_words", "_law_bad", "_law_k"], (.cons (.ite (.cmp .eq (.v 0) (.c (.str "-"))) (.cons (.ret (.c .non))
    .nil) .nil)
  (.cons (.asg (.nm 1) (.m1 .split (.v 0) (.c (.str " + "))))
  (.cons (.asg (.nm 2) (.op .add (.lc [3] (.nm 3) (.rng1 (.fn .len (.v 1))) (.som (.not (.e (.call "_law_is_term" (.cons (.sub (.v 1) (.v 3)) .nil))))) (.v 3)) (.op .mul (.lst (.cons (.c (.int 5)) .nil)) (.fn .int (.cmp .gt (.fn .len (.v 1)) (.c (.int 5)))))))
  (.cons (.ret (.ite (.cmp .ne (.v 2) (.lst .nil)) (.fn .min (.v 2)) (.c .non)))
  .nil))))⟩
def f_law : LFun := ⟨["_law_script"], ["_law_script", "_law_bag_here", "_law_odd", "_law_texts", "_law_turn", "_law_text_here", "_law_words", "_law_at", "_law_spot", "_law_sign", "_law_told_here"], (.cons (.asg (.nm 1) (.call "_law_bag" (.cons (.v 0) .nil)))
  (.cons (.asg (.nm 2) (.lst (.cons (.c (.str "")) (.cons (.c (.str "d")) (.cons (.c (.str "a[0]")) (.cons (.c (.str "a[2]")) (.cons (.c (.str "a[-1")) (.cons (.c (.str "a@")) (.cons (.c (.str "a@-1")) (.cons (.c (.str "a@01")) (.cons (.c (.str "a@3..")) (.cons (.c (.str "a@3..[2]")) (.cons (.c (.str "a@3..-2")) (.cons (.c (.str "1*a")) (.cons (.c (.str "-1*a")) (.cons (.c (.str "2*")) (.cons (.c (.str "*a")) .nil)))))))))))))))))
  (.cons (.asg (.nm 2) (.op .add (.v 2) (.lst (.cons (.c (.str "2*3")) (.cons (.c (.str "2*2*a")) (.cons (.c (.str "1000")) (.cons (.c (.str "-0")) (.cons (.c (.str "07")) (.cons (.c (.str "gone2")) (.cons (.c (.str "3*gone")) (.cons (.c (.str "A")) (.cons (.c (.str "a @3")) (.cons (.c (.str " a")) (.cons (.c (.str "a ")) (.cons (.c (.str "ab")) (.cons (.c (.str "a@3..9..9")) (.cons (.c (.str "+ a")) (.cons (.c (.str "-")) .nil))))))))))))))))))
  (.cons (.asg (.nm 2) (.op .add (.v 2) (.lst (.cons (.op .add (.c (.str "a@")) (.op .mul (.c (.str "9")) (.c (.int 17)))) (.cons (.op .add (.c (.str "a@1")) (.op .mul (.c (.str "0")) (.c (.int 15)))) (.cons (.c (.str "0*a")) (.cons (.c (.str "-999")) (.cons (.c (.str "999*b[1]")) (.cons (.c (.str "-a")) (.cons (.c (.str "a@3..[0]")) (.cons (.c (.str "a[+1]")) (.cons (.c (.str "--1")) (.cons (.c (.str "a@3..-1")) (.cons (.c (.str "\n")) .nil))))))))))))))
  (.cons (.own 3 (.op .add (.v 2) (.lst (.cons (.c (.str "a + -")) (.cons (.c (.str "- + a")) (.cons (.c (.str "a  + b")) (.cons (.c (.str "a +b")) (.cons (.m1 .join (.c (.str " + ")) (.op .mul (.lst (.cons (.c (.str "a")) .nil)) (.c (.int 5)))) (.cons (.m1 .join (.c (.str " + ")) (.op .mul (.lst (.cons (.c (.str "a")) .nil)) (.c (.int 6)))) (.cons (.c (.str "a + b + c + d + a + b")) .nil))))))))))
  (.cons (.loop (.nm 4) (.rng1 (.c (.int 8))) (.cons (.own 6 (.m1 .split (.call "_law_text" (.cons (.call "_law_formula" (.cons (.v 1) (.cons (.lst (.cons (.c (.str "a")) (.cons (.c (.str "b")) (.cons (.c (.str "c")) .nil)))) (.cons (.c (.int 9)) .nil)))) .nil)) (.c (.str " + "))))
    (.cons (.asg (.nm 7) (.call "_law_pull" (.cons (.v 1) (.cons (.fn .len (.b 6)) .nil))))
    (.cons (.par [9, 5] (.cons (.call "_law_of" (.cons (.v 1) (.cons (.fn .list (.c (.str " +*\x40[]0-1abg."))) .nil))) (.cons (.sub (.b 6) (.v 7)) .nil)))
    (.cons (.asg (.nm 8) (.call "_law_pull" (.cons (.v 1) (.cons (.op .add (.fn .len (.v 5)) (.c (.int 1))) .nil))))
    (.cons (.setO 6 (.v 7) (.call "_law_of" (.cons (.v 1) (.cons (.lst (.cons (.call "_law_of" (.cons (.v 1) (.cons (.v 2) .nil))) (.cons (.op .add (.op .add (.slc (.v 5) .non (.som (.v 8))) (.v 9)) (.slc (.v 5) (.som (.op .add (.v 8) (.call "_law_pull" (.cons (.v 1) (.cons (.c (.int 2)) .nil))))) .non)) .nil))) .nil))))
    (.cons (.appO 3 (.m1 .join (.c (.str " + ")) (.b 6)))
    .nil)))))))
  (.cons (.relO 3)
  (.cons (.loop (.nm 5) (.seq (.v 3)) (.cons (.par [7, 10] (.cons (.call "_law_wrong" (.cons (.v 5) .nil)) (.cons (.call "_law_told" (.cons (.v 5) .nil)) .nil)))
    (.cons (.ite (.or (.and (.cmp .notN (.v 7) (.c .non)) (.not (.e (.call "_law_like" (.cons (.v 10) (.cons (.tup (.cons (.c (.str "BadText")) (.cons (.v 7) .nil))) .nil)))))) (.and (.cmp .isN (.v 7) (.c .non)) (.cmp .ne (.call "_law_text" (.cons (.sub (.v 10) (.c (.int 1))) .nil)) (.v 5)))) (.cons (.ret (.c (.bl false)))
    .nil) .nil)
    .nil)))
  (.cons (.ret (.c (.bl true)))
  .nil)))))))))⟩
def tbl : List (Str × LFun) := [("_law_bag", f_law_bag), ("_law_pull", f_law_pull), ("_law_of", f_law_of), ("_law_times", f_law_times), ("_law_term", f_law_term), ("_law_formula", f_law_formula), ("_law_like", f_law_like), ("_law_term_text", f_law_term_text), ("_law_text", f_law_text), ("is_number", f_is_number), ("is_term", f_is_term), ("number_in", f_number_in), ("term_text", f_term_text), ("thing_in", f_thing_in), ("term_in", f_term_in), ("read_formula", f_read_formula), ("_law_told", f_law_told), ("_law_is_plain", f_law_is_plain), ("_law_is_thing", f_law_is_thing), ("_law_is_term", f_law_is_term), ("_law_wrong", f_law_wrong), ("law", f_law)]
def T (f : Str) : Option LFun := tbl.lookup f
def xs : List Str := ["BadText"]
def hs : List Str := ["BadText"]
/-! ### the head -/
def d_f_law_bag : He.DefD := ⟨("_law_bag", none), "_law_bag", "_law_bag", defArgs (top 18), defBody (top 18), defScope (top 18), [], []⟩
def d_f_law_pull : He.DefD := ⟨("_law_pull", none), "_law_pull", "_law_pull", defArgs (top 19), defBody (top 19), defScope (top 19), [], []⟩
def d_f_law_of : He.DefD := ⟨("_law_of", none), "_law_of", "_law_of", defArgs (top 20), defBody (top 20), defScope (top 20), [], []⟩
def d_f_law_times : He.DefD := ⟨("_law_times", none), "_law_times", "_law_times", defArgs (top 22), defBody (top 22), defScope (top 22), [], []⟩
def d_f_law_term : He.DefD := ⟨("_law_term", none), "_law_term", "_law_term", defArgs (top 23), defBody (top 23), defScope (top 23), [], []⟩
def d_f_law_formula : He.DefD := ⟨("_law_formula", none), "_law_formula", "_law_formula", defArgs (top 24), defBody (top 24), defScope (top 24), [], []⟩
def d_f_law_like : He.DefD := ⟨("_law_like", none), "_law_like", "_law_like", defArgs (top 21), defBody (top 21), defScope (top 21), [], []⟩
def d_f_law_term_text : He.DefD := ⟨("_law_term_text", none), "_law_term_text", "_law_term_text", defArgs (top 25), defBody (top 25), defScope (top 25), [], []⟩
def d_f_law_text : He.DefD := ⟨("_law_text", none), "_law_text", "_law_text", defArgs (top 26), defBody (top 26), defScope (top 26), [], []⟩
def d_f_is_number : He.DefD := ⟨("is_number", none), "is_number", "is_number", defArgs (top 10), defBody (top 10), defScope (top 10), [], []⟩
def d_f_is_term : He.DefD := ⟨("is_term", none), "is_term", "is_term", defArgs (top 11), defBody (top 11), defScope (top 11), [], []⟩
def d_f_number_in : He.DefD := ⟨("number_in", none), "number_in", "number_in", defArgs (top 13), defBody (top 13), defScope (top 13), [], []⟩
def d_f_term_text : He.DefD := ⟨("term_text", none), "term_text", "term_text", defArgs (top 12), defBody (top 12), defScope (top 12), [], []⟩
def d_f_thing_in : He.DefD := ⟨("thing_in", none), "thing_in", "thing_in", defArgs (top 14), defBody (top 14), defScope (top 14), [], []⟩
def d_f_term_in : He.DefD := ⟨("term_in", none), "term_in", "term_in", defArgs (top 15), defBody (top 15), defScope (top 15), [], []⟩
def d_f_read_formula : He.DefD := ⟨("read_formula", none), "read_formula", "read_formula", defArgs (top 16), defBody (top 16), defScope (top 16), [], []⟩
def d_f_law_told : He.DefD := ⟨("_law_told", none), "_law_told", "_law_told", defArgs (top 27), defBody (top 27), defScope (top 27), [], []⟩
def d_f_law_is_plain : He.DefD := ⟨("_law_is_plain", none), "_law_is_plain", "_law_is_plain", defArgs (top 28), defBody (top 28), defScope (top 28), [], []⟩
def d_f_law_is_thing : He.DefD := ⟨("_law_is_thing", none), "_law_is_thing", "_law_is_thing", defArgs (top 29), defBody (top 29), defScope (top 29), [], []⟩
def d_f_law_is_term : He.DefD := ⟨("_law_is_term", none), "_law_is_term", "_law_is_term", defArgs (top 30), defBody (top 30), defScope (top 30), [], []⟩
def d_f_law_wrong : He.DefD := ⟨("_law_wrong", none), "_law_wrong", "_law_wrong", defArgs (top 31), defBody (top 31), defScope (top 31), [], []⟩
def d_f_law : He.DefD := ⟨("law", none), "law", "law", defArgs (top 32), defBody (top 32), defScope (top 32), [], []⟩
theorem c_f_law_bag : fnB f_law_bag (defScope (top 18)) = true ∧ chkSs xs hs (fnK f_law_bag (defScope (top 18))) f_law_bag.body (defBody (top 18)) = true := by decide +kernel
theorem c_f_law_pull : fnB f_law_pull (defScope (top 19)) = true ∧ chkSs xs hs (fnK f_law_pull (defScope (top 19))) f_law_pull.body (defBody (top 19)) = true := by decide +kernel
theorem c_f_law_of : fnB f_law_of (defScope (top 20)) = true ∧ chkSs xs hs (fnK f_law_of (defScope (top 20))) f_law_of.body (defBody (top 20)) = true := by decide +kernel
theorem c_f_law_times : fnB f_law_times (defScope (top 22)) = true ∧ chkSs xs hs (fnK f_law_times (defScope (top 22))) f_law_times.body (defBody (top 22)) = true := by decide +kernel
theorem c_f_law_term : fnB f_law_term (defScope (top 23)) = true ∧ chkSs xs hs (fnK f_law_term (defScope (top 23))) f_law_term.body (defBody (top 23)) = true := by decide +kernel
theorem c_f_law_formula : fnB f_law_formula (defScope (top 24)) = true ∧ chkSs xs hs (fnK f_law_formula (defScope (top 24))) f_law_formula.body (defBody (top 24)) = true := by decide +kernel
theorem c_f_law_like : fnB f_law_like (defScope (top 21)) = true ∧ chkSs xs hs (fnK f_law_like (defScope (top 21))) f_law_like.body (defBody (top 21)) = true := by decide +kernel
theorem c_f_law_term_text : fnB f_law_term_text (defScope (top 25)) = true ∧ chkSs xs hs (fnK f_law_term_text (defScope (top 25))) f_law_term_text.body (defBody (top 25)) = true := by decide +kernel
theorem c_f_law_text : fnB f_law_text (defScope (top 26)) = true ∧ chkSs xs hs (fnK f_law_text (defScope (top 26))) f_law_text.body (defBody (top 26)) = true := by decide +kernel
theorem c_f_is_number : fnB f_is_number (defScope (top 10)) = true ∧ chkSs xs hs (fnK f_is_number (defScope (top 10))) f_is_number.body (defBody (top 10)) = true := by decide +kernel
theorem c_f_is_term : fnB f_is_term (defScope (top 11)) = true ∧ chkSs xs hs (fnK f_is_term (defScope (top 11))) f_is_term.body (defBody (top 11)) = true := by decide +kernel
theorem c_f_number_in : fnB f_number_in (defScope (top 13)) = true ∧ chkSs xs hs (fnK f_number_in (defScope (top 13))) f_number_in.body (defBody (top 13)) = true := by decide +kernel
theorem c_f_term_text : fnB f_term_text (defScope (top 12)) = true ∧ chkSs xs hs (fnK f_term_text (defScope (top 12))) f_term_text.body (defBody (top 12)) = true := by decide +kernel
theorem c_f_thing_in : fnB f_thing_in (defScope (top 14)) = true ∧ chkSs xs hs (fnK f_thing_in (defScope (top 14))) f_thing_in.body (defBody (top 14)) = true := by decide +kernel
theorem c_f_term_in : fnB f_term_in (defScope (top 15)) = true ∧ chkSs xs hs (fnK f_term_in (defScope (top 15))) f_term_in.body (defBody (top 15)) = true := by decide +kernel
theorem c_f_read_formula : fnB f_read_formula (defScope (top 16)) = true ∧ chkSs xs hs (fnK f_read_formula (defScope (top 16))) f_read_formula.body (defBody (top 16)) = true := by decide +kernel
theorem c_f_law_told : fnB f_law_told (defScope (top 27)) = true ∧ chkSs xs hs (fnK f_law_told (defScope (top 27))) f_law_told.body (defBody (top 27)) = true := by decide +kernel
theorem c_f_law_is_plain : fnB f_law_is_plain (defScope (top 28)) = true ∧ chkSs xs hs (fnK f_law_is_plain (defScope (top 28))) f_law_is_plain.body (defBody (top 28)) = true := by decide +kernel
theorem c_f_law_is_thing : fnB f_law_is_thing (defScope (top 29)) = true ∧ chkSs xs hs (fnK f_law_is_thing (defScope (top 29))) f_law_is_thing.body (defBody (top 29)) = true := by decide +kernel
theorem c_f_law_is_term : fnB f_law_is_term (defScope (top 30)) = true ∧ chkSs xs hs (fnK f_law_is_term (defScope (top 30))) f_law_is_term.body (defBody (top 30)) = true := by decide +kernel
theorem c_f_law_wrong : fnB f_law_wrong (defScope (top 31)) = true ∧ chkSs xs hs (fnK f_law_wrong (defScope (top 31))) f_law_wrong.body (defBody (top 31)) = true := by decide +kernel
theorem c_f_law : fnB f_law (defScope (top 32)) = true ∧ chkSs xs hs (fnK f_law (defScope (top 32))) f_law.body (defBody (top 32)) = true := by decide +kernel
end Far.K02

set_option Elab.async false
set_option linter.all false
set_option maxRecDepth 100000
set_option maxHeartbeats 0
namespace Far.K02
open PySem PySem.Spec PyProof.Rows L2 Far.L
def d_SheetError : He.DefD := ⟨("SheetError", some "__init__"), "__init__", "SheetError.__init__", defArgs (methOf (top 1) 0), defBody (methOf (top 1) 0), defScope (methOf (top 1) 0), [], []⟩
def d_BadText : He.DefD := ⟨("BadText", some "__init__"), "__init__", "BadText.__init__", defArgs (methOf (top 2) 0), defBody (methOf (top 2) 0), defScope (methOf (top 2) 0), [], []⟩
def fn : List He.DefD := [d_SheetError, d_BadText, d_f_law_bag, d_f_law_pull, d_f_law_of, d_f_law_times, d_f_law_term, d_f_law_formula, d_f_law_like, d_f_law_term_text, d_f_law_text, d_f_is_number, d_f_is_term, d_f_number_in, d_f_term_text, d_f_thing_in, d_f_term_in, d_f_read_formula, d_f_law_told, d_f_law_is_plain, d_f_law_is_thing, d_f_law_is_term, d_f_law_wrong, d_f_law]
def fa : List He.Fa := ([.glo "_law_bag", .glo "_law_pull", .glo "_law_of", .glo "_law_times", .glo "_law_term", .glo "_law_formula", .glo "_law_like", .glo "_law_term_text", .glo "_law_text", .glo "is_number", .glo "is_term", .glo "number_in", .glo "term_text", .glo "thing_in", .glo "term_in", .glo "read_formula", .glo "_law_told", .glo "_law_is_plain", .glo "_law_is_thing", .glo "_law_is_term", .glo "_law_wrong", .glo "law", .glo "SheetError", .glo "BadText", .glo "LETTERS", .glo "COUNTS", .free "len", .free "all", .free "any", .free "tuple"] : List He.Fa) ++ ([.free "list", .free "abs", .free "isinstance", .free "int", .free "bool", .free "str", .free "dict", .free "range", .free "min", .free "ValueError", .int "MOST_ROW" 1000000000000000, .int "MOST_TERMS" 5, .int "MOST_TIMES" 999, .str "FIGURES" "0123456789", .exm "BadText" "BadText" true, .noat "BadText" "word", .noat "BadText" "at", .meth "BadText" "__init__", .meth "SheetError" "__init__"] : List He.Fa)
def v_COUNTS : List (Str × V) := [("one", .int 2), ("look", .int 4), ("at", .int 4), ("sum", .int 5), ("total", .int 5), ("gone", .int 2)]
def v_LETTERS : List V := [.str "a", .str "b", .str "c"]
def ts : List He.Tab := [(fun K => He.ga K "COUNTS", ["one", "look", "at", "sum", "total", "gone"])]
def ck (K : PySem.W.Frag) : Bool := oexB K (He.ga K "BadText") && (veB K && (baseB K (He.ga K "SheetError") && (xfB K (He.ga K "BadText") && (kentB K (He.ga K "COUNTS") v_COUNTS && (tupB K (He.ga K "LETTERS") v_LETTERS)))))
abbrev Rw : PySem.W.OpenRow := PySem.W.OpenLaw.row PySem.Challenge.rw_farsheet_k02_texts_of_no_formula
abbrev hk : PySem.W.Hook := hookF 5 fa fn ts ck
def ob (s : PySem.W.SharedT) : hk.α := obsF 5 fa fn ts ck (HandSHeadRun.getT s)
theorem ob_eq (s : PySem.W.SharedT) : ob s = hk.obs s.abs := obsF_eq (HandSHeadRun.getT_eq s)
def loose : List Str := (["SheetError", "BadText", "MOST_ROW", "MOST_TERMS", "MOST_TIMES", "FIGURES", "LETTERS", "COUNTS", "is_number", "is_term", "term_text", "number_in", "thing_in", "term_in", "read_formula", "_law_bag", "_law_pull", "_law_of", "_law_like", "_law_times", "_law_term", "_law_formula", "_law_term_text", "_law_text", "_law_told", "_law_is_plain", "_law_is_thing", "_law_is_term", "_law_wrong"] : List Str)
theorem run (w : World) : HandSHeadRun.RunEq Rw (PySem.W.view Rw.prog [32]) hk ob 20000 loose w := by
  refine PySem.W.byRow2 "special-get-raises" (P := fun w => HandSHeadRun.RunEq Rw (PySem.W.view Rw.prog [32]) hk ob 20000 loose w) (fun w os => ?_) (fun w os => ?_) w
  · kernel_rfl
  · kernel_rfl
end Far.K02

set_option Elab.async false
set_option linter.all false
set_option maxRecDepth 100000
set_option maxHeartbeats 4000000
namespace Far.K02
open PySem PySem.Spec PyProof.Rows L2 Far.L
def gv (x : Str) : Option U := if x = "COUNTS" then some (.kdt [.inr "one", .inr "look", .inr "at", .inr "sum", .inr "total", .inr "gone"] [.int 2, .int 4, .int 4, .int 5, .int 5, .int 2]) else if x = "LETTERS" then some (.tup [.str "a", .str "b", .str "c"]) else if x = "MOST_ROW" then some (.int 1000000000000000) else if x = "MOST_TERMS" then some (.int 5) else if x = "MOST_TIMES" then some (.int 999) else if x = "FIGURES" then some (.str "0123456789") else none
def xm_BadText (us : List U) : Option (List (Str × U)) := match us with
  | [u] => some [("word", .str "badtext"), ("at", u)]
  | _ => none
def xmv (c : Str) (us : List U) : Option (List (Str × U)) := if c = "BadText" then xm_BadText us else none
def subv (e c : Str) : Option Bool := if e = "BadText" ∧ c = "BadText" then some true else none
def fldv (c f : Str) : Bool := (c == "BadText" && f == "at")
def N : Cn := ⟨gv, xmv, subv, fun f => (T f).isSome, fldv⟩
section
variable {P : Program} {w : World} {K : PySem.W.Frag} {h : Heap} {mg : Str → Option Value}
theorem ff_f_law_bag (X : K.In h) (G : h.Ns mainGlobals mg) (c : He.SaysT fa fn ts w K) : FnF xs hs K mg "_law_bag" f_law_bag := by
  obtain ⟨fd, F⟩ := c.d.def_ 2 (d := d_f_law_bag) rfl
  exact ⟨_, fd, _, _, _, _, _, _, He.glo_ok X G (c.d.fact 0 (f := .glo "_law_bag") rfl), F, c_f_law_bag.1, c_f_law_bag.2, F.bindsN fun _ _ _ _ _ _ us hl => match us, hl with | [_], _ => rfl⟩
theorem ff_f_law_pull (X : K.In h) (G : h.Ns mainGlobals mg) (c : He.SaysT fa fn ts w K) : FnF xs hs K mg "_law_pull" f_law_pull := by
  obtain ⟨fd, F⟩ := c.d.def_ 3 (d := d_f_law_pull) rfl
  exact ⟨_, fd, _, _, _, _, _, _, He.glo_ok X G (c.d.fact 1 (f := .glo "_law_pull") rfl), F, c_f_law_pull.1, c_f_law_pull.2, F.bindsN fun _ _ _ _ _ _ us hl => match us, hl with | [_, _], _ => rfl⟩
theorem ff_f_law_of (X : K.In h) (G : h.Ns mainGlobals mg) (c : He.SaysT fa fn ts w K) : FnF xs hs K mg "_law_of" f_law_of := by
  obtain ⟨fd, F⟩ := c.d.def_ 4 (d := d_f_law_of) rfl
  exact ⟨_, fd, _, _, _, _, _, _, He.glo_ok X G (c.d.fact 2 (f := .glo "_law_of") rfl), F, c_f_law_of.1, c_f_law_of.2, F.bindsN fun _ _ _ _ _ _ us hl => match us, hl with | [_, _], _ => rfl⟩
theorem ff_f_law_times (X : K.In h) (G : h.Ns mainGlobals mg) (c : He.SaysT fa fn ts w K) : FnF xs hs K mg "_law_times" f_law_times := by
  obtain ⟨fd, F⟩ := c.d.def_ 5 (d := d_f_law_times) rfl
  exact ⟨_, fd, _, _, _, _, _, _, He.glo_ok X G (c.d.fact 3 (f := .glo "_law_times") rfl), F, c_f_law_times.1, c_f_law_times.2, F.bindsN fun _ _ _ _ _ _ us hl => match us, hl with | [_], _ => rfl⟩
theorem ff_f_law_term (X : K.In h) (G : h.Ns mainGlobals mg) (c : He.SaysT fa fn ts w K) : FnF xs hs K mg "_law_term" f_law_term := by
  obtain ⟨fd, F⟩ := c.d.def_ 6 (d := d_f_law_term) rfl
  exact ⟨_, fd, _, _, _, _, _, _, He.glo_ok X G (c.d.fact 4 (f := .glo "_law_term") rfl), F, c_f_law_term.1, c_f_law_term.2, F.bindsN fun _ _ _ _ _ _ us hl => match us, hl with | [_, _, _], _ => rfl⟩
theorem ff_f_law_formula (X : K.In h) (G : h.Ns mainGlobals mg) (c : He.SaysT fa fn ts w K) : FnF xs hs K mg "_law_formula" f_law_formula := by
  obtain ⟨fd, F⟩ := c.d.def_ 7 (d := d_f_law_formula) rfl
  exact ⟨_, fd, _, _, _, _, _, _, He.glo_ok X G (c.d.fact 5 (f := .glo "_law_formula") rfl), F, c_f_law_formula.1, c_f_law_formula.2, F.bindsN fun _ _ _ _ _ _ us hl => match us, hl with | [_, _, _], _ => rfl⟩
theorem ff_f_law_like (X : K.In h) (G : h.Ns mainGlobals mg) (c : He.SaysT fa fn ts w K) : FnF xs hs K mg "_law_like" f_law_like := by
  obtain ⟨fd, F⟩ := c.d.def_ 8 (d := d_f_law_like) rfl
  exact ⟨_, fd, _, _, _, _, _, _, He.glo_ok X G (c.d.fact 6 (f := .glo "_law_like") rfl), F, c_f_law_like.1, c_f_law_like.2, F.bindsN fun _ _ _ _ _ _ us hl => match us, hl with | [_, _], _ => rfl⟩
theorem ff_f_law_term_text (X : K.In h) (G : h.Ns mainGlobals mg) (c : He.SaysT fa fn ts w K) : FnF xs hs K mg "_law_term_text" f_law_term_text := by
  obtain ⟨fd, F⟩ := c.d.def_ 9 (d := d_f_law_term_text) rfl
  exact ⟨_, fd, _, _, _, _, _, _, He.glo_ok X G (c.d.fact 7 (f := .glo "_law_term_text") rfl), F, c_f_law_term_text.1, c_f_law_term_text.2, F.bindsN fun _ _ _ _ _ _ us hl => match us, hl with | [_], _ => rfl⟩
theorem ff_f_law_text (X : K.In h) (G : h.Ns mainGlobals mg) (c : He.SaysT fa fn ts w K) : FnF xs hs K mg "_law_text" f_law_text := by
  obtain ⟨fd, F⟩ := c.d.def_ 10 (d := d_f_law_text) rfl
  exact ⟨_, fd, _, _, _, _, _, _, He.glo_ok X G (c.d.fact 8 (f := .glo "_law_text") rfl), F, c_f_law_text.1, c_f_law_text.2, F.bindsN fun _ _ _ _ _ _ us hl => match us, hl with | [_], _ => rfl⟩
theorem ff_f_is_number (X : K.In h) (G : h.Ns mainGlobals mg) (c : He.SaysT fa fn ts w K) : FnF xs hs K mg "is_number" f_is_number := by
  obtain ⟨fd, F⟩ := c.d.def_ 11 (d := d_f_is_number) rfl
  exact ⟨_, fd, _, _, _, _, _, _, He.glo_ok X G (c.d.fact 9 (f := .glo "is_number") rfl), F, c_f_is_number.1, c_f_is_number.2, F.bindsN fun _ _ _ _ _ _ us hl => match us, hl with | [_, _, _], _ => rfl⟩
theorem ff_f_is_term (X : K.In h) (G : h.Ns mainGlobals mg) (c : He.SaysT fa fn ts w K) : FnF xs hs K mg "is_term" f_is_term := by
  obtain ⟨fd, F⟩ := c.d.def_ 12 (d := d_f_is_term) rfl
  exact ⟨_, fd, _, _, _, _, _, _, He.glo_ok X G (c.d.fact 10 (f := .glo "is_term") rfl), F, c_f_is_term.1, c_f_is_term.2, F.bindsN fun _ _ _ _ _ _ us hl => match us, hl with | [_, _], _ => rfl⟩
theorem ff_f_number_in (X : K.In h) (G : h.Ns mainGlobals mg) (c : He.SaysT fa fn ts w K) : FnF xs hs K mg "number_in" f_number_in := by
  obtain ⟨fd, F⟩ := c.d.def_ 13 (d := d_f_number_in) rfl
  exact ⟨_, fd, _, _, _, _, _, _, He.glo_ok X G (c.d.fact 11 (f := .glo "number_in") rfl), F, c_f_number_in.1, c_f_number_in.2, F.bindsN fun _ _ _ _ _ _ us hl => match us, hl with | [_], _ => rfl⟩
theorem ff_f_term_text (X : K.In h) (G : h.Ns mainGlobals mg) (c : He.SaysT fa fn ts w K) : FnF xs hs K mg "term_text" f_term_text := by
  obtain ⟨fd, F⟩ := c.d.def_ 14 (d := d_f_term_text) rfl
  exact ⟨_, fd, _, _, _, _, _, _, He.glo_ok X G (c.d.fact 12 (f := .glo "term_text") rfl), F, c_f_term_text.1, c_f_term_text.2, F.bindsN fun _ _ _ _ _ _ us hl => match us, hl with | [_], _ => rfl⟩
theorem ff_f_thing_in (X : K.In h) (G : h.Ns mainGlobals mg) (c : He.SaysT fa fn ts w K) : FnF xs hs K mg "thing_in" f_thing_in := by
  obtain ⟨fd, F⟩ := c.d.def_ 15 (d := d_f_thing_in) rfl
  exact ⟨_, fd, _, _, _, _, _, _, He.glo_ok X G (c.d.fact 13 (f := .glo "thing_in") rfl), F, c_f_thing_in.1, c_f_thing_in.2, F.bindsN fun _ _ _ _ _ _ us hl => match us, hl with | [_, _], _ => rfl⟩
theorem ff_f_term_in (X : K.In h) (G : h.Ns mainGlobals mg) (c : He.SaysT fa fn ts w K) : FnF xs hs K mg "term_in" f_term_in := by
  obtain ⟨fd, F⟩ := c.d.def_ 16 (d := d_f_term_in) rfl
  exact ⟨_, fd, _, _, _, _, _, _, He.glo_ok X G (c.d.fact 14 (f := .glo "term_in") rfl), F, c_f_term_in.1, c_f_term_in.2, F.bindsN fun _ _ _ _ _ _ us hl => match us, hl with | [_], _ => rfl⟩
theorem ff_f_read_formula (X : K.In h) (G : h.Ns mainGlobals mg) (c : He.SaysT fa fn ts w K) : FnF xs hs K mg "read_formula" f_read_formula := by
  obtain ⟨fd, F⟩ := c.d.def_ 17 (d := d_f_read_formula) rfl
  exact ⟨_, fd, _, _, _, _, _, _, He.glo_ok X G (c.d.fact 15 (f := .glo "read_formula") rfl), F, c_f_read_formula.1, c_f_read_formula.2, F.bindsN fun _ _ _ _ _ _ us hl => match us, hl with | [_], _ => rfl⟩
theorem ff_f_law_told (X : K.In h) (G : h.Ns mainGlobals mg) (c : He.SaysT fa fn ts w K) : FnF xs hs K mg "_law_told" f_law_told := by
  obtain ⟨fd, F⟩ := c.d.def_ 18 (d := d_f_law_told) rfl
  exact ⟨_, fd, _, _, _, _, _, _, He.glo_ok X G (c.d.fact 16 (f := .glo "_law_told") rfl), F, c_f_law_told.1, c_f_law_told.2, F.bindsN fun _ _ _ _ _ _ us hl => match us, hl with | [_], _ => rfl⟩
theorem ff_f_law_is_plain (X : K.In h) (G : h.Ns mainGlobals mg) (c : He.SaysT fa fn ts w K) : FnF xs hs K mg "_law_is_plain" f_law_is_plain := by
  obtain ⟨fd, F⟩ := c.d.def_ 19 (d := d_f_law_is_plain) rfl
  exact ⟨_, fd, _, _, _, _, _, _, He.glo_ok X G (c.d.fact 17 (f := .glo "_law_is_plain") rfl), F, c_f_law_is_plain.1, c_f_law_is_plain.2, F.bindsN fun _ _ _ _ _ _ us hl => match us, hl with | [_, _, _], _ => rfl⟩
theorem ff_f_law_is_thing (X : K.In h) (G : h.Ns mainGlobals mg) (c : He.SaysT fa fn ts w K) : FnF xs hs K mg "_law_is_thing" f_law_is_thing := by
  obtain ⟨fd, F⟩ := c.d.def_ 20 (d := d_f_law_is_thing) rfl
  exact ⟨_, fd, _, _, _, _, _, _, He.glo_ok X G (c.d.fact 18 (f := .glo "_law_is_thing") rfl), F, c_f_law_is_thing.1, c_f_law_is_thing.2, F.bindsN fun _ _ _ _ _ _ us hl => match us, hl with | [_], _ => rfl⟩
theorem ff_f_law_is_term (X : K.In h) (G : h.Ns mainGlobals mg) (c : He.SaysT fa fn ts w K) : FnF xs hs K mg "_law_is_term" f_law_is_term := by
  obtain ⟨fd, F⟩ := c.d.def_ 21 (d := d_f_law_is_term) rfl
  exact ⟨_, fd, _, _, _, _, _, _, He.glo_ok X G (c.d.fact 19 (f := .glo "_law_is_term") rfl), F, c_f_law_is_term.1, c_f_law_is_term.2, F.bindsN fun _ _ _ _ _ _ us hl => match us, hl with | [_], _ => rfl⟩
theorem ff_f_law_wrong (X : K.In h) (G : h.Ns mainGlobals mg) (c : He.SaysT fa fn ts w K) : FnF xs hs K mg "_law_wrong" f_law_wrong := by
  obtain ⟨fd, F⟩ := c.d.def_ 22 (d := d_f_law_wrong) rfl
  exact ⟨_, fd, _, _, _, _, _, _, He.glo_ok X G (c.d.fact 20 (f := .glo "_law_wrong") rfl), F, c_f_law_wrong.1, c_f_law_wrong.2, F.bindsN fun _ _ _ _ _ _ us hl => match us, hl with | [_], _ => rfl⟩
theorem ff_f_law (X : K.In h) (G : h.Ns mainGlobals mg) (c : He.SaysT fa fn ts w K) : FnF xs hs K mg "law" f_law := by
  obtain ⟨fd, F⟩ := c.d.def_ 23 (d := d_f_law) rfl
  exact ⟨_, fd, _, _, _, _, _, _, He.glo_ok X G (c.d.fact 21 (f := .glo "law") rfl), F, c_f_law.1, c_f_law.2, F.bindsN fun _ _ _ _ _ _ us hl => match us, hl with | [_], _ => rfl⟩
theorem fns_ok (X : K.In h) (G : h.Ns mainGlobals mg) (c : He.SaysT fa fn ts w K) (f : Str) (F : LFun) (e : T f = some F) : FnF xs hs K mg f F := by
  unfold T tbl at e
  rw [List.lookup_cons] at e
  split at e
  · rename_i q
    rw [eq_of_beq q]
    cases e
    exact ff_f_law_bag X G c
  rw [List.lookup_cons] at e
  split at e
  · rename_i q
    rw [eq_of_beq q]
    cases e
    exact ff_f_law_pull X G c
  rw [List.lookup_cons] at e
  split at e
  · rename_i q
    rw [eq_of_beq q]
    cases e
    exact ff_f_law_of X G c
  rw [List.lookup_cons] at e
  split at e
  · rename_i q
    rw [eq_of_beq q]
    cases e
    exact ff_f_law_times X G c
  rw [List.lookup_cons] at e
  split at e
  · rename_i q
    rw [eq_of_beq q]
    cases e
    exact ff_f_law_term X G c
  rw [List.lookup_cons] at e
  split at e
  · rename_i q
    rw [eq_of_beq q]
    cases e
    exact ff_f_law_formula X G c
  rw [List.lookup_cons] at e
  split at e
  · rename_i q
    rw [eq_of_beq q]
    cases e
    exact ff_f_law_like X G c
  rw [List.lookup_cons] at e
  split at e
  · rename_i q
    rw [eq_of_beq q]
    cases e
    exact ff_f_law_term_text X G c
  rw [List.lookup_cons] at e
  split at e
  · rename_i q
    rw [eq_of_beq q]
    cases e
    exact ff_f_law_text X G c
  rw [List.lookup_cons] at e
  split at e
  · rename_i q
    rw [eq_of_beq q]
    cases e
    exact ff_f_is_number X G c
  rw [List.lookup_cons] at e
  split at e
  · rename_i q
    rw [eq_of_beq q]
    cases e
    exact ff_f_is_term X G c
  rw [List.lookup_cons] at e
  split at e
  · rename_i q
    rw [eq_of_beq q]
    cases e
    exact ff_f_number_in X G c
  rw [List.lookup_cons] at e
  split at e
  · rename_i q
    rw [eq_of_beq q]
    cases e
    exact ff_f_term_text X G c
  rw [List.lookup_cons] at e
  split at e
  · rename_i q
    rw [eq_of_beq q]
    cases e
    exact ff_f_thing_in X G c
  rw [List.lookup_cons] at e
  split at e
  · rename_i q
    rw [eq_of_beq q]
    cases e
    exact ff_f_term_in X G c
  rw [List.lookup_cons] at e
  split at e
  · rename_i q
    rw [eq_of_beq q]
    cases e
    exact ff_f_read_formula X G c
  rw [List.lookup_cons] at e
  split at e
  · rename_i q
    rw [eq_of_beq q]
    cases e
    exact ff_f_law_told X G c
  rw [List.lookup_cons] at e
  split at e
  · rename_i q
    rw [eq_of_beq q]
    cases e
    exact ff_f_law_is_plain X G c
  rw [List.lookup_cons] at e
  split at e
  · rename_i q
    rw [eq_of_beq q]
    cases e
    exact ff_f_law_is_thing X G c
  rw [List.lookup_cons] at e
  split at e
  · rename_i q
    rw [eq_of_beq q]
    cases e
    exact ff_f_law_is_term X G c
  rw [List.lookup_cons] at e
  split at e
  · rename_i q
    rw [eq_of_beq q]
    cases e
    exact ff_f_law_wrong X G c
  rw [List.lookup_cons] at e
  split at e
  · rename_i q
    rw [eq_of_beq q]
    cases e
    exact ff_f_law X G c
  cases e
theorem free_all (X : K.In h) (G : h.Ns mainGlobals mg) (c : He.SaysT fa fn ts w K) : ∀ x ∈ bltNames, mg x = none := by
  intro x hx
  simp only [bltNames, List.mem_cons, List.not_mem_nil, or_false] at hx
  rcases hx with rfl | rfl | rfl | rfl | rfl | rfl | rfl | rfl | rfl | rfl | rfl | rfl | rfl
  · exact He.free_ok X G (c.d.fact 26 (f := .free "len") rfl)
  · exact He.free_ok X G (c.d.fact 27 (f := .free "all") rfl)
  · exact He.free_ok X G (c.d.fact 28 (f := .free "any") rfl)
  · exact He.free_ok X G (c.d.fact 29 (f := .free "tuple") rfl)
  · exact He.free_ok X G (c.d.fact 30 (f := .free "list") rfl)
  · exact He.free_ok X G (c.d.fact 31 (f := .free "abs") rfl)
  · exact He.free_ok X G (c.d.fact 32 (f := .free "isinstance") rfl)
  · exact He.free_ok X G (c.d.fact 33 (f := .free "int") rfl)
  · exact He.free_ok X G (c.d.fact 34 (f := .free "bool") rfl)
  · exact He.free_ok X G (c.d.fact 35 (f := .free "str") rfl)
  · exact He.free_ok X G (c.d.fact 36 (f := .free "dict") rfl)
  · exact He.free_ok X G (c.d.fact 37 (f := .free "range") rfl)
  · exact He.free_ok X G (c.d.fact 38 (f := .free "min") rfl)
theorem con_ok (X : K.In h) (G : h.Ns mainGlobals mg) (c : He.SaysT fa fn ts w K) (k : ck K = true) (x : Str) (u : U) (e : gv x = some u) : ∃ v z, mg x = some z ∧ RelV v z ∧ CV K w (fun _ => none) [] u v := by
  unfold gv at e
  split at e
  · rename_i q
    subst q
    cases e
    exact ⟨.ref (He.ga K "COUNTS"), _, He.glo_ok X G (c.d.fact 25 (f := .glo "COUNTS") rfl), rfl, .kdc (kentB_ok (ps := v_COUNTS) (ba (ba (ba (ba (ba k).2).2).2).2).1 (c.tab 0)) (.cons (.int _) (.cons (.int _) (.cons (.int _) (.cons (.int _) (.cons (.int _) (.cons (.int _) .nil))))))⟩
  split at e
  · rename_i q
    subst q
    cases e
    exact ⟨.ref (He.ga K "LETTERS"), _, He.glo_ok X G (c.d.fact 24 (f := .glo "LETTERS") rfl), rfl, .tup (tupB_ok (xs := v_LETTERS) (ba (ba (ba (ba (ba k).2).2).2).2).2) (.cons (.str _) (.cons (.str _) (.cons (.str _) .nil)))⟩
  split at e
  · rename_i q
    subst q
    cases e
    obtain ⟨t, ht⟩ := He.int_ok X G (c.d.fact 40 (f := .int "MOST_ROW" 1000000000000000) rfl)
    exact ⟨.int 1000000000000000, _, ht, ⟨t, rfl⟩, .int _⟩
  split at e
  · rename_i q
    subst q
    cases e
    obtain ⟨t, ht⟩ := He.int_ok X G (c.d.fact 41 (f := .int "MOST_TERMS" 5) rfl)
    exact ⟨.int 5, _, ht, ⟨t, rfl⟩, .int _⟩
  split at e
  · rename_i q
    subst q
    cases e
    obtain ⟨t, ht⟩ := He.int_ok X G (c.d.fact 42 (f := .int "MOST_TIMES" 999) rfl)
    exact ⟨.int 999, _, ht, ⟨t, rfl⟩, .int _⟩
  split at e
  · rename_i q
    subst q
    cases e
    obtain ⟨t, ht⟩ := He.str_ok X G (c.d.fact 43 (f := .str "FIGURES" "0123456789") rfl)
    exact ⟨.str "0123456789", _, ht, ⟨t, rfl⟩, .str _⟩
  cases e
theorem rse_BadText (X : K.In h) (G : h.Ns mainGlobals mg) (c : He.SaysT fa fn ts w K) (k : ck K = true) (base : Heap) : RsC0 N P w K mg base "BadText" := by
  obtain ⟨r, fc⟩ := baseB_ok (ba (ba (ba k).2).2).1
  obtain ⟨fdS, DS⟩ := c.d.def_ 0 (d := d_SheetError) rfl
  obtain ⟨fdB, DB⟩ := c.d.def_ 1 (d := d_BadText) rfl
  have mS := He.meth_ok (c.d.fact 48 (f := .meth "SheetError" "__init__") rfl)
  have mB := He.meth_ok (c.d.fact 47 (f := .meth "BadText" "__init__") rfl)
  have okS : FnOk P w K mg base (L2.CX P w) 1 _ fdS ["self", "word"] _ := init_word DS ⟨rfl, rfl, rfl, by decide +kernel, rfl, by decide +kernel, by decide +kernel⟩ rfl rfl rfl rfl (He.free_ok X G (c.d.fact 39 (f := .free "ValueError") rfl)) (veB_ok (ba (ba k).2).1)
  have bS : L2.Binds K fdS ["self", "word"] [] := DS.bindsN fun _ _ _ _ _ _ us hl => match us, hl with | [_, _], _ => rfl
  have bB : L2.Binds K fdB ["self", "at"] [] := DB.bindsN fun _ _ _ _ _ _ us hl => match us, hl with | [_, _], _ => rfl
  have okB := init_one (P := P) (w := w) (base := base) (wd := "badtext") (y := "at") (b := "SheetError") DB ⟨rfl, rfl, rfl, by decide +kernel, rfl, by decide +kernel, by decide +kernel⟩ rfl rfl (by decide +kernel) (by decide +kernel) rfl rfl (by decide +kernel) (He.glo_ok X G (c.d.fact 22 (f := .glo "SheetError") rfl)) r fc mS.kp okS bS
  refine ⟨_, _, fdB, _, 1, _, _, He.glo_ok X G (c.d.fact 23 (f := .glo "BadText") rfl), oexB_ok (ba k).1, fun f hf => ?_, mB.at_, eq_of_beq mB.fn, okB, bB, fun us fs e => ?_⟩
  · simp at hf
    rcases hf with rfl | rfl
    · exact He.noat_ok (c.d.fact 45 (f := .noat "BadText" "word") rfl)
    · exact He.noat_ok (c.d.fact 46 (f := .noat "BadText" "at") rfl)
  · have e2 : xmv "BadText" us = some fs := e
    have e3 : xm_BadText us = some fs := e2
    unfold xm_BadText at e3
    split at e3
    · rename_i u
      cases e3
      refine ⟨rfl, by decide, fun F rho vs cs f u' hl => ?_⟩
      cases cs with
      | cons c1 c2 =>
        rename_i v1 _
        cases c2
        rw [List.lookup_cons] at hl
        split at hl
        · rename_i q
          cases hl
          rw [eq_of_beq q]
          exact ⟨.str "badtext", rfl, .str _⟩
        · rw [List.lookup_cons] at hl
          split at hl
          · rename_i q
            cases hl
            rw [eq_of_beq q]
            exact ⟨v1, rfl, c1⟩
          · cases hl
    · cases e3
theorem glb (X : K.In h) (G : h.Ns mainGlobals mg) (c : He.SaysT fa fn ts w K) (k : ck K = true) (base : Heap) : Glb xs hs N T P w K mg base where
  con := con_ok X G c k
  free := free_all X G c
  rse := fun x hx => by
    simp [xs] at hx
    subst hx
    exact rse_BadText X G c k base
  han := fun x hx => by
    simp [hs] at hx
    subst hx
    exact ⟨_, He.glo_ok X G (c.d.fact 23 (f := .glo "BadText") rfl)⟩
  sub := fun e x b hb => by
    have hb2 : subv e x = some b := hb
    unfold subv at hb2
    split at hb2
    · rename_i q
      obtain ⟨rfl, rfl⟩ := q
      cases hb2
      exact ⟨_, _, He.glo_ok X G (c.d.fact 23 (f := .glo "BadText") rfl), He.glo_ok X G (c.d.fact 23 (f := .glo "BadText") rfl), He.exm_ok (c.d.fact 44 (f := .exm "BadText" "BadText" true) rfl)⟩
    cases hb2
  fns := fns_ok X G c
  has := fun f hf => Option.isSome_iff_exists.mp hf
  xfo := fun c' f' h => by
    have h2 : fldv c' f' = true := h
    unfold fldv at h2
    simp only [Bool.or_eq_true, Bool.and_eq_true, beq_iff_eq] at h2
    obtain ⟨rfl, rfl⟩ := h2
    exact ⟨_, He.glo_ok X G (c.d.fact 23 (f := .glo "BadText") rfl), xfB_ok (ba (ba (ba (ba k).2).2).2).1, He.noat_ok (c.d.fact 46 (f := .noat "BadText" "at") rfl)⟩
end
end Far.K02

set_option Elab.async false
set_option linter.all false
set_option maxRecDepth 100000
set_option maxHeartbeats 4000000
namespace Far.K02
open PySem PySem.Spec PyProof.Rows L2 Far.L
theorem eForm : EForm N T where
  pullT := rfl
  pullH := rfl
  ofT := rfl
  ofH := rfl
  timesT := rfl
  timesH := rfl
  termT := rfl
  termH := rfl
  formT := rfl
  formH := rfl
theorem eLike : ELike N T := ⟨rfl, rfl⟩
theorem eRead : ERead N T where
  ninT := rfl
  ninH := rfl
  gFig := rfl
  ttT := rfl
  ttH := rfl
  numT := rfl
  numH := rfl
  istT := rfl
  istH := rfl
  gRow := rfl
  gTimes := rfl
  gCounts := rfl
  gTerms := rfl
  gLet := rfl
  thT := rfl
  thH := rfl
  tiT := rfl
  tiH := rfl
  rdT := rfl
  rdH := rfl
  xmT := fun _ => rfl
/-! ### written numbers by the law -/
def plainB (l : List Nat) (lo hi : Int) : Bool := match numIn l with
  | some i => decide (lo ≤ i) && decide (i ≤ hi)
  | none => false
theorem num_self {l : List Nat} (hd : allDig (plainOf l) = true) (hne : plainOf l ≠ []) (hl : (plainOf l).length ≤ 16) :
    numIn l = if l = numL (if neg? l = true then -((valL (plainOf l) : Nat) : Int) else ((valL (plainOf l) : Nat) : Int)) then some (if neg? l = true then -((valL (plainOf l) : Nat) : Int) else ((valL (plainOf l) : Nat) : Int)) else none := by
  generalize hv : (if neg? l = true then -((valL (plainOf l) : Nat) : Int) else ((valL (plainOf l) : Nat) : Int)) = i
  have vb : (valL (plainOf l)) < 10 ^ 16 := Nat.lt_of_lt_of_le (valL_lt _ hd) (Nat.pow_le_pow_right (by decide) hl)
  have hi : i.natAbs < 10 ^ 16 := by
    rw [← hv]
    split <;> omega
  by_cases z : l = numL i
  · rw [if_pos z]
    have := numIn_num hi
    rw [← z] at this
    exact this
  · rw [if_neg z]
    cases e : numIn l with
    | none => rfl
    | some j =>
      obtain ⟨e1, _⟩ := numIn_some e
      exfalso
      apply z
      have : j = i := by
        rw [← hv]
        unfold numIn at e
        split at e
        · split at e
          · exact (Option.some.inj e).symm
          · cases e
        · cases e
      rw [← this]
      exact e1
theorem eq_take1 (l : List Nat) : (l.take 1 = [45]) ↔ neg? l = true := by
  rw [neg_iff]
  constructor
  · intro h
    cases l with
    | nil => simp at h
    | cons c t =>
      simp at h
      exact ⟨t, by rw [h]⟩
  · rintro ⟨t, rfl⟩
    rfl
theorem isp_ok {k : Nat} (hk : 1 ≤ k) {l : List Nat} (hl : okL l = true) (hb : l.length ≤ big) (lo hi : Int) (S : Sto) : callN N T k "_law_is_plain" [.str (sT l), .int lo, .int hi] S = .ok (.bl (plainB l lo hi)) S := by
  rw [call_eq hk (F := f_law_is_plain) rfl rfl]
  generalize callN N T (k - 1) = cf
  have c0 := cut_to S hb 1
  have c1 := cut_from S hb 1
  simp only [Int.ofNat_eq_natCast, Int.cast_ofNat_Int] at c0 c1
  have q0 := eq_lit (a := l.take 1) t_dash (okL_take 1 hl) (by decide) S
  have e1 : evE N cf [.val (.str (sT l)), .val (.int lo), .val (.int hi), .no, .no] (.ite (.cmp .eq (.slc (.v 0) .non (.som (.c (.int 1)))) (.c (.str "-"))) (.slc (.v 0) (.som (.c (.int 1))) .non) (.v 0)) S = .ok (.str (sT (plainOf l))) S := by
    unfold plainOf
    cases h : neg? l with
    | true =>
      rw [decide_eq_true ((eq_take1 l).mpr h)] at q0
      simp [-List.drop_one, c0, q0, c1]
    | false =>
      have : ¬ l.take 1 = [45] := fun z => by
        rw [eq_take1, h] at z
        cases z
      rw [decide_eq_false this] at q0
      simp [-List.drop_one, c0, q0]
  have hp : okL (plainOf l) = true := by
    unfold plainOf
    split
    · exact okL_drop 1 hl
    · exact hl
  have hpb : (plainOf l).length ≤ big := by
    unfold plainOf
    split
    · rw [List.length_drop]; omega
    · exact hb
  have q1 := eq_lit (a := plainOf l) t_empty hp (by decide) S
  have step : evSs N cf f_law_is_plain.body (startU 5 [.str (sT l), .int lo, .int hi]) S = evSs N cf (tailS f_law_is_plain.body) [.val (.str (sT l)), .val (.int lo), .val (.int hi), .val (.str (sT (plainOf l))), .no] S := by
    simp [f_law_is_plain, tailS, startU, -evE_ite, e1]
  show endU (evSs N cf f_law_is_plain.body (startU 5 [.str (sT l), .int lo, .int hi]) S) = _
  rw [step]
  have ns := @num_self l
  generalize hP : plainOf l = p at hp hpb q1 ns
  by_cases c1 : p = []
  · rw [decide_eq_true c1] at q1
    have nn : plainB l lo hi = false := by
      unfold plainB numIn
      rw [hP, if_neg (fun z => by rw [c1] at z; simp at z)]
    rw [nn]
    simp [f_law_is_plain, tailS, q1, endU]
  rw [decide_eq_false c1] at q1
  by_cases c2 : p.length ≤ 16
  · have b1 : p.length ≤ 100000 := by omega
    have lc := lc_mapG (turn := lcTurn N cf [.val (.str (sT l)), .val (.int lo), .val (.int hi), .val (.str (sT p)), .no] [4] (.nm 4) .non (.cmp .isin (.v 4) (.c (.str "0123456789")))) (fun c => U.str (sT [c])) (fun c => .bl (digU (.str (sT [c])))) S p [] (fun c _ => by
      simp [lcTurn, wipeS, t_figs, isin_fig, digU_sT, allDig])
    have ha : fnc .all S [.lst (p.map fun c => .bl (digU (.str (sT [c]))))] = some (.val (.bl (allDig p))) := by
      have := all_map S digU (p.map fun c => U.str (sT [c]))
      rw [List.map_map] at this
      have e2 : ((fun u => U.bl (digU u)) ∘ fun c => U.str (sT [c])) = fun c => U.bl (digU (U.str (sT [c]))) := rfl
      rw [e2] at this
      rw [this]
      congr 3
      rw [List.all_map]
      show p.all (fun c => digU (.str (sT [c]))) = _
      simp only [digU_sT]
      unfold allDig
      simp
    have i2 : ¬ (16 : Int) < p.length := by omega
    cases hd : allDig p with
    | false =>
      have nn : plainB l lo hi = false := by
        unfold plainB numIn
        rw [hP, if_neg (fun z => by rw [hd] at z; cases z.2.2)]
      rw [nn]
      simp [f_law_is_plain, tailS, q1, len_sTu S hpb, i2, signs_sT, b1, big, lc, ha, hd, truth, endU]
    | true =>
      have ns2 := ns hd c1 c2
      generalize hv : (if neg? l = true then -((valL p : Nat) : Int) else ((valL p : Nat) : Int)) = i at ns2
      have il : fnc .int S [.str (sT l)] = some (.val (.int i)) := by
        rw [← hv]
        cases hn : neg? l with
        | true =>
          obtain ⟨t, rfl⟩ := neg_iff.mp hn
          have ep : plainOf (45 :: t) = t := by unfold plainOf; rw [if_pos hn]; rfl
          rw [ep] at hP
          subst hP
          exact int_u S (by simp; omega) (int_neg hd c1 (by omega))
        | false =>
          have ep : plainOf l = l := by unfold plainOf; rw [hn]; rfl
          rw [ep] at hP
          subst hP
          exact int_u S (by omega) (int_dig hd c1 (by omega))
      have vb : (valL p) < 10 ^ 16 := Nat.lt_of_lt_of_le (valL_lt _ hd) (Nat.pow_le_pow_right (by decide) c2)
      have hi' : i.natAbs < 10 ^ 16 := by
        rw [← hv]
        split <;> omega
      have sv := str_u S (small_log hi')
      have q2 := eq_sT hl (numL_okL i) S
      by_cases z : l = numL i
      · rw [decide_eq_true z] at q2
        rw [if_pos z] at ns2
        have nn : plainB l lo hi = (decide (lo ≤ i) && decide (i ≤ hi)) := by
          unfold plainB
          rw [ns2]
        rw [nn]
        by_cases z1 : lo ≤ i
        · simp [f_law_is_plain, tailS, q1, len_sTu S hpb, i2, signs_sT, b1, big, lc, ha, hd, truth, il, sv, q2, z1, endU]
        · simp [f_law_is_plain, tailS, q1, len_sTu S hpb, i2, signs_sT, b1, big, lc, ha, hd, truth, il, sv, q2, z1, endU]
      · rw [decide_eq_false z] at q2
        rw [if_neg z] at ns2
        have nn : plainB l lo hi = false := by
          unfold plainB
          rw [ns2]
        rw [nn]
        simp [f_law_is_plain, tailS, q1, len_sTu S hpb, i2, signs_sT, b1, big, lc, ha, hd, truth, il, sv, q2, endU]
  · have nn : plainB l lo hi = false := by
      unfold plainB numIn
      rw [hP, if_neg (fun z => c2 z.2.1)]
    rw [nn]
    have i2 : (16 : Int) < p.length := by omega
    simp [f_law_is_plain, tailS, q1, len_sTu S hpb, i2, endU]
end Far.K02

set_option Elab.async false
set_option linter.all false
set_option maxRecDepth 100000
set_option maxHeartbeats 4000000
namespace Far.K02
open PySem PySem.Spec PyProof.Rows L2 Far.L
theorem mapM_strs : ∀ xs : List (List Nat), (xs.map fun x => U.str (sT x)).mapM flatV? = some (xs.map fun x => V.str (sT x))
  | [] => rfl
  | x :: xs => by
    rw [List.map_cons, List.mapM_cons, mapM_strs xs]
    rfl
theorem in_lits (S : Sto) (n : List Nat) (xs : List (List Nat)) : cop .isin S (.str (sT n)) (.lst (xs.map fun x => U.str (sT x))) = some (decide (n ∈ xs)) := by
  show inL (.str (sT n)) (xs.map fun x => U.str (sT x)) = _
  have e : inFlat (.str (sT n)) (xs.map fun x => U.str (sT x)) = some (decide (n ∈ xs)) := by
    unfold inFlat
    rw [mapM_strs]
    show some (inV (.str (sT n)) (xs.map fun x => V.str (sT x))) = _
    congr 1
    unfold inV
    rw [List.any_map, Bool.eq_iff_iff, List.any_eq_true, decide_eq_true_eq]
    constructor
    · rintro ⟨x, h1, h2⟩
      have h3 : (sT x == sT n) = true := h2
      have := sT_inj (eq_of_beq h3)
      rw [← this]
      exact h1
    · intro h
      exact ⟨n, h, show (sT n == sT n) = true by simp⟩
  unfold inL
  rw [e]
theorem notin_lits (S : Sto) (n : List Nat) (xs : List (List Nat)) : cop .notin S (.str (sT n)) (.lst (xs.map fun x => U.str (sT x))) = some (!decide (n ∈ xs)) := by
  have e := in_lits S n xs
  show (inL (.str (sT n)) (xs.map fun x => U.str (sT x))).map (!·) = _
  have e2 : inL (.str (sT n)) (xs.map fun x => U.str (sT x)) = some (decide (n ∈ xs)) := e
  rw [e2]
  rfl
theorem t_m1 : Str.ofString "[-1]" = sT [91, 45, 49, 93] := sT_lit (by decide)
theorem t_0 : Str.ofString "[0]" = sT [91, 48, 93] := sT_lit (by decide)
theorem t_1 : Str.ofString "[1]" = sT [91, 49, 93] := sT_lit (by decide)
theorem t_one : Str.ofString "1" = sT [49] := sT_lit (by decide)
def b3 : List (List Nat) := [[91, 45, 49, 93], [91, 48, 93], [91, 49, 93]]
def thing2B (r : List Nat) : Bool := match findL [46, 46] r with
  | none => plainB r 0 1000000000000000
  | some (a, b) => (match findL [46, 46] b with
    | some _ => false
    | none => plainB a 0 1000000000000000 && (decide (b ∈ b3) || plainB b (-1) 1000000000000000))
def thingB (l : List Nat) : Bool :=
  if l = [103, 111, 110, 101] then true else
  if l.take 1 ∉ ([[97], [98], [99]] : List (List Nat)) then false else
  if l.drop 1 ∈ ([[], [91, 45, 49, 93], [91, 49, 93]] : List (List Nat)) then true else
  if (l.drop 1).take 1 ≠ [64] then false else thing2B ((l.drop 1).drop 1)
theorem kind_dots : Builtin.Str.strKind (sT [46, 46]) = 1 := by kernel_rfl
theorem kind_star : Builtin.Str.strKind (sT [42]) = 1 := by kernel_rfl
theorem split2 (r : List Nat) : Txt.split (sT r) (sT [46, 46]) = match findL [46, 46] r with
    | some (a, b) => sT a :: Txt.split (sT b) (sT [46, 46])
    | none => [sT r] := by
  rw [split_eq (sT r) (sT [46, 46]) (by simp) kind_dots]
  all_goals (simp only [sL_sT])
  all_goals (cases findL [46, 46] r <;> rfl)
theorem split1 (r : List Nat) : Txt.split (sT r) (sT [42]) = match findL [42] r with
    | some (a, b) => sT a :: Txt.split (sT b) (sT [42])
    | none => [sT r] := by
  rw [split_eq (sT r) (sT [42]) (by simp) kind_star]
  all_goals (simp only [sL_sT])
  all_goals (cases findL [42] r <;> rfl)
theorem split_ne (r s : List Nat) (hs : 1 ≤ s.length) (hk : Builtin.Str.strKind (sT s) = 1) : ∃ a t, Txt.split (sT r) (sT s) = a :: t := by
  rw [split_eq _ _ (by simpa using hs) hk]
  simp only [sL_sT]
  cases findL s r with
  | none => exact ⟨_, _, rfl⟩
  | some p => exact ⟨_, _, rfl⟩
theorem ispH : N.has "_law_is_plain" = true := rfl
theorem istH' : N.has "_law_is_thing" = true := rfl
theorem ne_lit {z : String} {a b : List Nat} (hz : Str.ofString z = sT b) (ha : okL a = true) (hb : okL b = true) (S : Sto) : cop .ne S (.str (sT a)) (.str (Str.ofString z)) = some (!decide (a = b)) := by
  rw [hz]; exact ne_sT ha hb S
theorem split_lit {z : String} {a b : List Nat} (hz : Str.ofString z = sT b) (hb : b ≠ []) (ha : a.length ≤ 50000) : met .split (.str (sT a)) (.str (Str.ofString z)) = some (.newL ((Txt.split (sT a) (sT b)).map .str)) := by
  rw [hz]; exact split_sT hb (by simp [big]; omega)
theorem len3 (S : Sto) (a b c : U) (us : List U) : ∃ m : Int, 3 ≤ m ∧ fnc .len S [.lst (a :: b :: c :: us)] = some (.val (.int m)) := ⟨((a :: b :: c :: us).length : Nat), by simp; omega, rfl⟩
theorem lst0 (S : Sto) (a : U) (us : List U) : item S (.lst (a :: us)) (.int 0) = some a := c_at_ _ _ _
theorem lst1 (S : Sto) (a b : U) (us : List U) : item S (.lst (a :: b :: us)) (.int 1) = some b := c_at1 _ _ _ _
theorem thing_ok {k : Nat} (hk : 2 ≤ k) {l : List Nat} (hl : okL l = true) (hb : l.length ≤ 50000) (S : Sto) : callN N T k "_law_is_thing" [.str (sT l)] S = .ok (.bl (thingB l)) S := by
  rw [call_eq (by omega) (F := f_law_is_thing) rfl rfl]
  have hbig : l.length ≤ big := by simp [big]; omega
  have ol1 := okL_drop 1 hl
  have ol2 := okL_drop 1 ol1
  have b1 : (l.drop 1).length ≤ big := by simp [big]; omega
  have b2 : ((l.drop 1).drop 1).length ≤ 50000 := by simp; omega
  have q1 := eq_lit t_gonel hl (by decide) S
  have c1 := cut_to S hbig 1
  have c2 := cut_from S hbig 1
  have c3 := cut_to S b1 1
  have c4 := cut_from S b1 1
  simp only [Int.ofNat_eq_natCast, Int.cast_ofNat_Int] at c1 c2 c3 c4
  have m1 : cop .notin S (.str (sT (l.take 1))) (.lst [.str "a", .str "b", .str "c"]) = some (!decide (l.take 1 ∈ ([[97], [98], [99]] : List (List Nat)))) := by
    rw [t_la, t_lbb, t_lcc]
    exact notin_lits S (l.take 1) [[97], [98], [99]]
  have m2 : cop .isin S (.str (sT (l.drop 1))) (.lst [.str "", .str "[-1]", .str "[1]"]) = some (decide (l.drop 1 ∈ ([[], [91, 45, 49, 93], [91, 49, 93]] : List (List Nat)))) := by
    rw [t_empty, t_m1, t_1]
    exact in_lits S (l.drop 1) [[], [91, 45, 49, 93], [91, 49, 93]]
  have q2 := ne_lit (a := (l.drop 1).take 1) t_atl (okL_take 1 ol1) (by decide) S
  have sp := split_lit (a := (l.drop 1).drop 1) t_dots (by decide) b2
  unfold thingB
  by_cases z1 : l = [103, 111, 110, 101]
  · rw [decide_eq_true z1] at q1
    rw [if_pos z1]
    simp [f_law_is_thing, startU, q1, endU]
  rw [if_neg z1]
  rw [decide_eq_false z1] at q1
  by_cases z2 : l.take 1 ∉ ([[97], [98], [99]] : List (List Nat))
  · rw [if_pos z2]
    rw [decide_eq_false z2] at m1
    simp [-List.drop_one, f_law_is_thing, startU, q1, c1, m1, endU, big]
  rw [if_neg z2]
  rw [decide_eq_true (Classical.not_not.mp z2)] at m1
  by_cases z3 : l.drop 1 ∈ ([[], [91, 45, 49, 93], [91, 49, 93]] : List (List Nat))
  · rw [if_pos z3]
    rw [decide_eq_true z3] at m2
    simp [-List.drop_one, f_law_is_thing, startU, q1, c1, m1, c2, m2, endU, big]
  rw [if_neg z3]
  rw [decide_eq_false z3] at m2
  by_cases z4 : (l.drop 1).take 1 = [64]
  · rw [if_neg (fun z => z z4)]
    rw [decide_eq_true z4] at q2
    unfold thing2B
    rw [split2] at sp
    cases hf : findL [46, 46] ((l.drop 1).drop 1) with
    | none =>
      rw [hf] at sp
      have n1 := isp_ok (k := k - 1) (by omega) ol2 (by simp [big]; omega) 0 1000000000000000 S
      simp only [List.map_cons, List.map_nil] at sp
      simp [-List.drop_one, -List.drop_drop, f_law_is_thing, startU, q1, c1, m1, c2, m2, c3, q2, c4, metTy, sp, len_lst, lst0, bop_pow_int, ispH, n1, endU, big]
    | some p =>
      obtain ⟨a, b⟩ := p
      rw [hf] at sp
      obtain ⟨oa, ob, la, lb⟩ := findL_ok hf ol2
      have n1 := isp_ok (k := k - 1) (by omega) oa (by simp [big]; omega) 0 1000000000000000 S
      simp only at sp
      rw [split2] at sp
      cases hf2 : findL [46, 46] b with
      | some p2 =>
        obtain ⟨a2, b2'⟩ := p2
        rw [hf2] at sp
        obtain ⟨a3, t3, e3⟩ := split_ne b2' [46, 46] (by simp) kind_dots
        simp only at sp
        rw [e3] at sp
        simp only [List.map_cons] at sp
        obtain ⟨m, hm, el⟩ := len3 S (.str (sT a)) (.str (sT a2)) (.str a3) (t3.map .str)
        have h1 : ¬ m = 1 := by omega
        have h2 : 2 < m := by omega
        simp [-List.drop_one, -List.drop_drop, f_law_is_thing, startU, q1, c1, m1, c2, m2, c3, q2, c4, metTy, sp, el, h1, h2, hf2, endU, big]
      | none =>
        rw [hf2] at sp
        simp only [List.map_cons, List.map_nil] at sp
        have n2 := isp_ok (k := k - 1) (by omega) ob (by simp [big]; omega) (-1) 1000000000000000 S
        have m3 : cop .isin S (.str (sT b)) (.lst [.str "[-1]", .str "[0]", .str "[1]"]) = some (decide (b ∈ b3)) := by
          rw [t_m1, t_0, t_1]
          exact in_lits S b b3
        simp only [hf2]
        cases hp : plainB a 0 1000000000000000 with
        | false =>
          rw [hp] at n1
          simp [-List.drop_one, -List.drop_drop, f_law_is_thing, startU, q1, c1, m1, c2, m2, c3, q2, c4, metTy, sp, len_lst, lst0, bop_pow_int, ispH, n1, truth, endU, big]
        | true =>
          rw [hp] at n1
          by_cases hm : b ∈ b3
          · rw [decide_eq_true hm] at m3 ⊢
            simp [-List.drop_one, -List.drop_drop, f_law_is_thing, startU, q1, c1, m1, c2, m2, c3, q2, c4, metTy, sp, len_lst, lst0, lst1, bop_pow_int, ispH, n1, truth, m3, endU, big]
          · rw [decide_eq_false hm] at m3 ⊢
            simp [-List.drop_one, -List.drop_drop, f_law_is_thing, startU, q1, c1, m1, c2, m2, c3, q2, c4, metTy, sp, len_lst, lst0, lst1, bop_pow_int, ispH, n1, truth, m3, n2, endU, big]
  · rw [if_pos z4]
    rw [decide_eq_false z4] at q2
    simp [-List.drop_one, f_law_is_thing, startU, q1, c1, m1, c2, m2, c3, q2, endU, big]
/-! ### a term by the law -/
def starB (l : List Nat) : Bool := match findL [42] l with
  | none => false
  | some (a, b) => (match findL [42] b with
    | some _ => false
    | none => !decide (a = [49]) && (plainB a (-999) 999 && thingB b))
def termB (l : List Nat) : Bool := plainB l (-999) 999 || (thingB l || starB l)
theorem isterm_ok {k : Nat} (hk : 3 ≤ k) {l : List Nat} (hl : okL l = true) (hb : l.length ≤ 50000) (S : Sto) : callN N T k "_law_is_term" [.str (sT l)] S = .ok (.bl (termB l)) S := by
  rw [call_eq (by omega) (F := f_law_is_term) rfl rfl]
  have n1 := isp_ok (k := k - 1) (by omega) hl (by simp [big]; omega) (-999) 999 S
  have n2 := thing_ok (k := k - 1) (by omega) hl hb S
  have sp := split_lit (a := l) t_star (by decide) hb
  unfold termB
  cases h1 : plainB l (-999) 999 with
  | true =>
    rw [h1] at n1
    simp [f_law_is_term, startU, ispH, n1, truth, endU]
  | false =>
    rw [h1] at n1
    cases h2 : thingB l with
    | true =>
      rw [h2] at n2
      simp [f_law_is_term, startU, ispH, istH', n1, n2, truth, endU]
    | false =>
      rw [h2] at n2
      unfold starB
      rw [split1] at sp
      cases hf : findL [42] l with
      | none =>
        rw [hf] at sp
        simp only [List.map_cons, List.map_nil] at sp
        simp [f_law_is_term, startU, ispH, istH', n1, n2, truth, metTy, sp, len_lst, endU]
      | some p =>
        obtain ⟨a, b⟩ := p
        rw [hf] at sp
        obtain ⟨oa, ob, la, lb⟩ := findL_ok hf hl
        simp only at sp
        rw [split1] at sp
        cases hf2 : findL [42] b with
        | some p2 =>
          obtain ⟨a2, b2⟩ := p2
          rw [hf2] at sp
          obtain ⟨a3, t3, e3⟩ := split_ne b2 [42] (by simp) kind_star
          simp only at sp
          rw [e3] at sp
          simp only [List.map_cons] at sp
          obtain ⟨m, hm, el⟩ := len3 S (.str (sT a)) (.str (sT a2)) (.str a3) (t3.map .str)
          have h3 : ¬ m = 2 := by omega
          simp [f_law_is_term, startU, ispH, istH', n1, n2, truth, metTy, sp, el, h3, hf2, endU]
        | none =>
          rw [hf2] at sp
          simp only [List.map_cons, List.map_nil] at sp
          have q := ne_lit (a := a) t_one oa (by decide) S
          have n3 := isp_ok (k := k - 1) (by omega) oa (by simp [big]; omega) (-999) 999 S
          have n4 := thing_ok (k := k - 1) (by omega) ob (by omega) S
          simp only [hf2]
          by_cases z : a = [49]
          · rw [decide_eq_true z] at q ⊢
            simp [f_law_is_term, startU, ispH, istH', n1, n2, truth, metTy, sp, len_lst, lst0, q, endU]
          · rw [decide_eq_false z] at q ⊢
            cases hp : plainB a (-999) 999 with
            | false =>
              rw [hp] at n3
              simp [f_law_is_term, startU, ispH, istH', n1, n2, truth, metTy, sp, len_lst, lst0, q, n3, endU]
            | true =>
              rw [hp] at n3
              simp [f_law_is_term, startU, ispH, istH', n1, n2, truth, metTy, sp, len_lst, lst0, lst1, q, n3, n4, endU]
end Far.K02

set_option Elab.async false
set_option linter.all false
set_option maxRecDepth 100000
set_option maxHeartbeats 4000000
namespace Far.K02
open PySem PySem.Spec PyProof.Rows L2 Far.L
theorem it0 (S : Sto) (a : U) (us : List U) : item S (.tup (a :: us)) (.int 0) = some a := item_tup0 _ _ _
theorem it1 (S : Sto) (a b : U) (us : List U) : item S (.tup (a :: b :: us)) (.int 1) = some b := by
  rw [item_tup, atI_nn _ _ (by omega) (by simp; omega)]
  rfl
theorem it2 (S : Sto) (a b c : U) (us : List U) : item S (.tup (a :: b :: c :: us)) (.int 2) = some c := by
  rw [item_tup, atI_nn _ _ (by omega) (by simp; omega)]
  rfl
theorem it3 (S : Sto) (a b c d : U) (us : List U) : item S (.tup (a :: b :: c :: d :: us)) (.int 3) = some d := by
  rw [item_tup, atI_nn _ _ (by omega) (by simp; omega)]
  rfl
theorem it4 (S : Sto) (a b c d e : U) (us : List U) : item S (.tup (a :: b :: c :: d :: e :: us)) (.int 4) = some e := by
  rw [item_tup, atI_nn _ _ (by omega) (by simp; omega)]
  rfl
/-! ### the law's own writing -/
theorem litadd (S : Sto) {a b : List Nat} {z : String} (hz : Str.ofString z = sT a) (h : a.length + b.length ≤ big) : bop .add S (.str (Str.ofString z)) (.str (sT b)) = some (.val (.str (sT (a ++ b)))) := by
  rw [hz]; exact add_sT S h
theorem ltt_ok {k : Nat} (hk : 1 ≤ k) {t : L.Tm} (h : t.ok) (S : Sto) : callN N T k "_law_term_text" [tmU t] S = .ok (.str (sT (tmL t))) S := by
  rw [call_eq hk (F := f_law_term_text) rfl rfl]
  generalize callN N T (k - 1) = cf
  have hh : ∀ m : Int, kOk m → ∀ w us, evE N cf [.val (.tup (w :: .int m :: us)), .no, .no] (.ite (.cmp .eq (.sub (.v 0) (.c (.int 1))) (.c (.int 1))) (.c (.str "")) (.op .add (.fn .str (.sub (.v 0) (.c (.int 1)))) (.c (.str "*")))) S = .ok (.str (sT (headL m))) S := fun m hm w us => by
    have l1 := numL_len hm.s
    have a1 := add_lit S (a := numL m) t_star (by simp [big]; omega)
    by_cases z : m = 1
    · simp [z, it1, headL, t_empty]
    · simp [z, it1, str_u S (small_log hm.s), a1, headL]
  cases t with
  | one m => simp [f_law_term_text, tmU, tmL, startU, it0, it1, eq_one_one, str_u S (small_log (kOk.s h)), endU]
  | gone m =>
    have l1 := headL_len (show kOk m from h)
    have a1 := add_lit S (a := headL m) t_gonel (by simp [big]; omega)
    simp [f_law_term_text, tmU, tmL, thgL, Tm.k, startU, it0, eq_gone_one, eq_gone_gone, -evE_ite, hh m h, a1, endU]
  | look m c b =>
    obtain ⟨h1, h2, h3⟩ := h
    have l1 := headL_len h1
    have l2 := numL_len h3.s
    have a1 := add_sT S (a := headL m) (b := [c]) (by simp [big]; omega)
    have a2 := litadd S (b := numL b) t_lb (by simp [big]; omega)
    have a3 := add_lit S (a := [91] ++ numL b) t_rb (by simp [big]; omega)
    have e1 : evE N cf [.val (tmU (.look m c b)), .val (.str (sT (headL m))), .no] (.ite (.cmp .eq (.sub (.v 0) (.c (.int 3))) (.c (.int 0))) (.c (.str "")) (.op .add (.op .add (.c (.str "[")) (.fn .str (.sub (.v 0) (.c (.int 3))))) (.c (.str "]")))) S = .ok (.str (sT (if b = 0 then [] else 91 :: (numL b ++ [93])))) S := by
      by_cases z : b = 0
      · simp [z, tmU, it3, t_empty]
      · simp only [List.cons_append, List.nil_append] at a2 a3
        simp [z, tmU, it3, str_u S (small_log h3.s), a2, a3]
    have a4 := add_sT S (a := headL m ++ [c]) (b := if b = 0 then [] else 91 :: (numL b ++ [93])) (by split <;> simp [big] <;> omega)
    simp only [tmU] at e1
    simp [f_law_term_text, tmU, tmL, thgL, Tm.k, startU, it0, it2, eq_look_one, eq_look_gone, eq_look_look, -evE_ite, hh m h1, a1, e1, a4, endU]
  | at_ m c r =>
    obtain ⟨h1, h2, h3⟩ := h
    have l1 := headL_len h1
    have l2 := numL_len h3.s
    have a1 := add_sT S (a := headL m) (b := [c]) (by simp [big]; omega)
    have a2 := add_lit S (a := headL m ++ [c]) t_atl (by simp [big]; omega)
    have a3 := add_sT S (a := headL m ++ [c] ++ [64]) (b := numL r) (by simp [big]; omega)
    simp only [List.append_assoc, List.cons_append, List.nil_append] at a2 a3
    simp [f_law_term_text, tmU, tmL, thgL, Tm.k, startU, it0, it2, it3, eq_at_one, eq_at_gone, eq_at_look, eq_at_at, -evE_ite, hh m h1, a1, a2, a3, str_u S (small_log h3.s), endU]
  | sum m c r b =>
    obtain ⟨h1, h2, h3, h4⟩ := h
    have l1 := headL_len h1
    have l2 := numL_len h3.s
    have l3 := numL_len h4.s
    have a1 := add_sT S (a := headL m) (b := [c]) (by simp [big]; omega)
    have a2 := add_lit S (a := headL m ++ [c]) t_atl (by simp [big]; omega)
    have a3 := add_sT S (a := headL m ++ [c] ++ [64]) (b := numL r) (by simp [big]; omega)
    have a4 := add_lit S (a := headL m ++ [c] ++ [64] ++ numL r) t_dots (by simp [big]; omega)
    have a5 := add_sT S (a := headL m ++ [c] ++ [64] ++ numL r ++ [46, 46]) (b := 91 :: (numL b ++ [93])) (by simp [big]; omega)
    have q1 := litadd S (b := numL b) t_lb (by simp [big]; omega)
    have q2 := add_lit S (a := [91] ++ numL b) t_rb (by simp [big]; omega)
    simp only [List.append_assoc, List.cons_append, List.nil_append] at a2 a3 a4 a5 q1 q2
    have e1 : evE N cf [.val (tmU (.sum m c r b)), .val (.str (sT (headL m))), .no] (.ite (.cmp .eq (.sub (.v 0) (.c (.int 0))) (.c (.str "sum"))) (.op .add (.op .add (.c (.str "[")) (.fn .str (.sub (.v 0) (.c (.int 4))))) (.c (.str "]"))) (.fn .str (.sub (.v 0) (.c (.int 4))))) S = .ok (.str (sT (91 :: (numL b ++ [93])))) S := by
      simp [tmU, it0, it4, eq_sum_sum, str_u S (small_log h4.s), q1, q2]
    simp only [tmU] at e1
    simp [f_law_term_text, tmU, tmL, thgL, Tm.k, startU, it0, it2, it3, eq_sum_one, eq_sum_gone, eq_sum_look, eq_sum_at, -evE_ite, hh m h1, e1, a1, a2, a3, a4, a5, str_u S (small_log h3.s), endU]
  | total m c r l =>
    obtain ⟨h1, h2, h3, h4⟩ := h
    have l1 := headL_len h1
    have l2 := numL_len h3.s
    have l3 := numL_len h4.s
    have a1 := add_sT S (a := headL m) (b := [c]) (by simp [big]; omega)
    have a2 := add_lit S (a := headL m ++ [c]) t_atl (by simp [big]; omega)
    have a3 := add_sT S (a := headL m ++ [c] ++ [64]) (b := numL r) (by simp [big]; omega)
    have a4 := add_lit S (a := headL m ++ [c] ++ [64] ++ numL r) t_dots (by simp [big]; omega)
    have a5 := add_sT S (a := headL m ++ [c] ++ [64] ++ numL r ++ [46, 46]) (b := numL l) (by simp [big]; omega)
    simp only [List.append_assoc, List.cons_append, List.nil_append] at a2 a3 a4 a5
    have e1 : evE N cf [.val (tmU (.total m c r l)), .val (.str (sT (headL m))), .no] (.ite (.cmp .eq (.sub (.v 0) (.c (.int 0))) (.c (.str "sum"))) (.op .add (.op .add (.c (.str "[")) (.fn .str (.sub (.v 0) (.c (.int 4))))) (.c (.str "]"))) (.fn .str (.sub (.v 0) (.c (.int 4))))) S = .ok (.str (sT (numL l))) S := by
      simp [tmU, it0, it4, eq_total_sum, str_u S (small_log h4.s)]
    simp only [tmU] at e1
    simp [f_law_term_text, tmU, tmL, thgL, Tm.k, startU, it0, it2, it3, eq_total_one, eq_total_gone, eq_total_look, eq_total_at, -evE_ite, hh m h1, e1, a1, a2, a3, a4, a5, str_u S (small_log h3.s), endU]
theorem lttH : N.has "_law_term_text" = true := rfl
theorem lt_ok {k : Nat} (hk : 2 ≤ k) {ts : List L.Tm} (h : ∀ t ∈ ts, t.ok) (hl : ts.length ≤ 5) (S : Sto) : callN N T k "_law_text" [.tup (ts.map tmU)] S = .ok (.str (sT (fmL ts))) S := by
  rw [call_eq (by omega) (F := f_law_text) rfl rfl]
  cases ts with
  | nil => simp [f_law_text, startU, big, ne_tup0, fmL, t_dash, endU]
  | cons t ts =>
    have hne := ne_tup h S
    have lc := lc_mapG (turn := lcTurn N (callN N T (k - 1)) [.val (.tup ((t :: ts).map tmU)), .no] [1] (.nm 1) .non (.call "_law_term_text" (.cons (.v 1) .nil))) tmU (fun s => U.str (sT (tmL s))) S (t :: ts) [] (fun s hs => by
      have tt := ltt_ok (k := k - 1) (by omega) (h s hs) S
      simp [lcTurn, wipeS, lttH, tt])
    have mj := met_join (xs := (t :: ts).map tmL) (fun x hx => by
      obtain ⟨s, hs, rfl⟩ := List.mem_map.mp hx
      have := tmL_len (h s hs)
      omega) (by simp at hl ⊢; omega)
    have e1 : ((t :: ts).map tmL).map (fun x => U.str (sT x)) = (t :: ts).map fun s => U.str (sT (tmL s)) := by rw [List.map_map]; rfl
    rw [e1] at mj
    have hb' : ((t :: ts).map tmU).length ≤ 100000 := by simp at hl ⊢; omega
    have ef : fmL (t :: ts) = joinL ((t :: ts).map tmL) := by unfold fmL; rw [if_neg (by simp)]
    rw [ef]
    generalize hU : (t :: ts).map tmU = us at *
    generalize hX : (t :: ts).map (fun s => U.str (sT (tmL s))) = xs at *
    simp only [List.map_cons] at mj
    simp [f_law_text, startU, hne, metTy, lc, hb', mj, endU, big]
/-! ### the law's look is right -/
theorem plain_iff {l : List Nat} {lo hi : Int} : plainB l lo hi = true ↔ ∃ i, numIn l = some i ∧ lo ≤ i ∧ i ≤ hi := by
  unfold plainB
  cases e : numIn l with
  | none => simp
  | some i => simp
theorem plain_num {l : List Nat} {lo hi : Int} (h : plainB l lo hi = true) : ∃ i, l = numL i ∧ lo ≤ i ∧ i ≤ hi := by
  obtain ⟨i, e, h1, h2⟩ := plain_iff.mp h
  exact ⟨i, (numIn_some e).1, h1, h2⟩
theorem plain_of {i lo hi : Int} (hi' : i.natAbs < 10 ^ 16) (h1 : lo ≤ i) (h2 : i ≤ hi) : plainB (numL i) lo hi = true := plain_iff.mpr ⟨i, numIn_num hi', h1, h2⟩
def withK (m : Int) : L.Tm → L.Tm
  | .one _ => .one m
  | .gone _ => .gone m
  | .look _ c b => .look m c b
  | .at_ _ c r => .at_ m c r
  | .sum _ c r b => .sum m c r b
  | .total _ c r l => .total m c r l
theorem withK_thg (m : Int) (t : L.Tm) : thgL (withK m t) = thgL t := by cases t <;> rfl
theorem withK_k (m : Int) (t : L.Tm) : (withK m t).k = m := by cases t <;> rfl
theorem withK_ok {m : Int} (hm : kOk m) {t : L.Tm} (h : t.ok) : (withK m t).ok := by
  cases t with
  | one k => exact hm
  | gone k => exact hm
  | look k c b => exact ⟨hm, h.2⟩
  | at_ k c r => exact ⟨hm, h.2⟩
  | sum k c r b => exact ⟨hm, h.2⟩
  | total k c r l => exact ⟨hm, h.2⟩
theorem withK_no {m : Int} {t : L.Tm} (h : ∀ k, t ≠ .one k) : ∀ k, withK m t ≠ .one k := by
  intro k e
  cases t <;> first | exact h _ rfl | cases e
theorem tm_thg {t : L.Tm} (h : ∀ k, t ≠ .one k) : tmL t = headL t.k ++ thgL t := by
  cases t <;> first | rfl | exact absurd rfl (h _)
theorem n_m1 : numL (-1) = [45, 49] := by decide
theorem n_0 : numL 0 = [48] := by decide
theorem n_1 : numL 1 = [49] := by decide
/-- a thing: what stands behind a number -/
def isThg (l : List Nat) : Prop := ∃ t : L.Tm, t.ok ∧ (∀ k, t ≠ .one k) ∧ thgL t = l
theorem thing2_of {c : Nat} (hc : cOk c) {r : List Nat} (h : thing2B r = true) : isThg (c :: 64 :: r) := by
  have k1 : kOk 1 := ⟨by decide, by decide⟩
  unfold thing2B at h
  cases hf : findL [46, 46] r with
  | none =>
    rw [hf] at h
    obtain ⟨i, rfl, h1, h2⟩ := plain_num h
    exact ⟨.at_ 1 c i, ⟨k1, hc, h1, h2⟩, fun k e => (by cases e), rfl⟩
  | some p =>
    obtain ⟨a, b⟩ := p
    rw [hf] at h
    simp only at h
    obtain ⟨e1, _⟩ := findL_some hf
    cases hf2 : findL [46, 46] b with
    | some q => rw [hf2] at h; cases h
    | none =>
      rw [hf2] at h
      simp only [Bool.and_eq_true, Bool.or_eq_true, decide_eq_true_eq] at h
      obtain ⟨hp, h3⟩ := h
      obtain ⟨i, rfl, h1, h2⟩ := plain_num hp
      rcases h3 with h3 | h3
      · have sm : ∀ x : Int, bOk x → b = 91 :: (numL x ++ [93]) → isThg (c :: 64 :: r) := fun x hx e => by
          refine ⟨.sum 1 c i x, ⟨k1, hc, ⟨h1, h2⟩, hx⟩, fun k e => (by cases e), ?_⟩
          rw [e1, e]
          rfl
        simp only [b3, List.mem_cons, List.not_mem_nil, or_false] at h3
        rcases h3 with h3 | h3 | h3
        · exact sm (-1) ⟨by decide, by decide⟩ (by rw [h3, n_m1]; rfl)
        · exact sm 0 ⟨by decide, by decide⟩ (by rw [h3, n_0]; rfl)
        · exact sm 1 ⟨by decide, by decide⟩ (by rw [h3, n_1]; rfl)
      · obtain ⟨j, rfl, j1, j2⟩ := plain_num h3
        refine ⟨.total 1 c i j, ⟨k1, hc, ⟨h1, h2⟩, j1, j2⟩, fun k e => (by cases e), ?_⟩
        rw [e1]
        rfl
theorem thing_of {l : List Nat} (h : thingB l = true) : isThg l := by
  have k1 : kOk 1 := ⟨by decide, by decide⟩
  unfold thingB at h
  split at h
  · rename_i e
    exact ⟨.gone 1, k1, fun k e => (by cases e), by rw [e]; rfl⟩
  split at h
  · cases h
  rename_i z
  have z' := Classical.not_not.mp z
  obtain ⟨c, r, rfl, hc⟩ : ∃ c r, l = c :: r ∧ cOk c := by
    cases l with
    | nil => simp at z'
    | cons c r =>
      simp at z'
      exact ⟨c, r, rfl, z'⟩
  simp only [List.drop_succ_cons, List.drop_zero] at h
  split at h
  · rename_i e
    simp only [List.mem_cons, List.not_mem_nil, or_false] at e
    rcases e with e | e | e
    · exact ⟨.look 1 c 0, ⟨k1, hc, by decide, by decide⟩, fun k e => (by cases e), by rw [e]; rfl⟩
    · exact ⟨.look 1 c (-1), ⟨k1, hc, by decide, by decide⟩, fun k e => (by cases e), by rw [e]; rfl⟩
    · exact ⟨.look 1 c 1, ⟨k1, hc, by decide, by decide⟩, fun k e => (by cases e), by rw [e]; rfl⟩
  split at h
  · cases h
  rename_i z2
  have z2' := Classical.not_not.mp z2
  cases r with
  | nil => simp at z2'
  | cons d r =>
    simp at z2'
    subst z2'
    exact thing2_of hc (by simpa using h)
theorem of_thing {t : L.Tm} (h : t.ok) (n1 : ∀ k, t ≠ .one k) : thingB (thgL t) = true := by
  have cm : ∀ {c : Nat}, cOk c → [c] ∈ ([[97], [98], [99]] : List (List Nat)) := fun {c} hc => by
    rcases hc with rfl | rfl | rfl <;> decide
  have n46 : ∀ i, 46 ∉ numL i := fun i => num_no (by omega) (by omega)
  cases t with
  | one k => exact absurd rfl (n1 k)
  | gone k => rfl
  | look k c b =>
    obtain ⟨h1, h2, h3⟩ := h
    have hb : b = -1 ∨ b = 0 ∨ b = 1 := by obtain ⟨a, b⟩ := h3; omega
    unfold thingB
    rcases hb with rfl | rfl | rfl
    · rw [if_neg (by simp [thgL]), if_neg (fun z => z (cm h2)), if_pos]
      show ([91, 45, 49, 93] : List Nat) ∈ _
      decide
    · rw [if_neg (by simp [thgL]), if_neg (fun z => z (cm h2)), if_pos]
      simp [thgL]
    · rw [if_neg (by simp [thgL]), if_neg (fun z => z (cm h2)), if_pos]
      show ([91, 49, 93] : List Nat) ∈ _
      decide
  | at_ k c r =>
    obtain ⟨h1, h2, h3⟩ := h
    unfold thingB
    rw [if_neg (by simp [thgL]), if_neg (fun z => z (cm h2)), if_neg (by simp [thgL]), if_neg (by simp [thgL])]
    show thing2B (numL r) = true
    unfold thing2B
    rw [findL_free (n46 r)]
    exact plain_of h3.s h3.1 h3.2
  | sum k c r b =>
    obtain ⟨h1, h2, h3, h4⟩ := h
    unfold thingB
    rw [if_neg (by simp [thgL]), if_neg (fun z => z (cm h2)), if_neg (by simp [thgL]), if_neg (by simp [thgL])]
    show thing2B (numL r ++ [46, 46] ++ (91 :: (numL b ++ [93]))) = true
    unfold thing2B
    rw [findL_at (n46 r)]
    simp only
    rw [findL_free (by simp [n46])]
    simp only
    rw [plain_of h3.s h3.1 h3.2]
    have hb : b = -1 ∨ b = 0 ∨ b = 1 := by obtain ⟨a, b⟩ := h4; omega
    rcases hb with rfl | rfl | rfl <;> decide
  | total k c r l =>
    obtain ⟨h1, h2, h3, h4⟩ := h
    unfold thingB
    rw [if_neg (by simp [thgL]), if_neg (fun z => z (cm h2)), if_neg (by simp [thgL]), if_neg (by simp [thgL])]
    show thing2B (numL r ++ [46, 46] ++ numL l) = true
    unfold thing2B
    rw [findL_at (n46 r)]
    simp only
    rw [findL_free (n46 l)]
    simp only
    rw [plain_of h3.s h3.1 h3.2, plain_of h4.s h4.1 h4.2]
    simp
theorem term_iff (l : List Nat) : termB l = true ↔ ∃ t : L.Tm, t.ok ∧ tmL t = l := by
  constructor
  · intro h
    unfold termB at h
    simp only [Bool.or_eq_true] at h
    rcases h with h | h | h
    · obtain ⟨i, rfl, h1, h2⟩ := plain_num h
      exact ⟨.one i, ⟨h1, h2⟩, rfl⟩
    · obtain ⟨t, h1, h2, h3⟩ := thing_of h
      refine ⟨withK 1 t, withK_ok ⟨by decide, by decide⟩ h1, ?_⟩
      rw [tm_thg (withK_no h2), withK_k, withK_thg, h3]
      rfl
    · unfold starB at h
      cases hf : findL [42] l with
      | none => rw [hf] at h; cases h
      | some p =>
        obtain ⟨a, b⟩ := p
        rw [hf] at h
        simp only at h
        obtain ⟨e1, _⟩ := findL_some hf
        cases hf2 : findL [42] b with
        | some q => rw [hf2] at h; cases h
        | none =>
          rw [hf2] at h
          simp only [Bool.and_eq_true, Bool.not_eq_true', decide_eq_false_iff_not] at h
          obtain ⟨n1, hp, ht⟩ := h
          obtain ⟨i, rfl, h1, h2⟩ := plain_num hp
          obtain ⟨t, t1, t2, rfl⟩ := thing_of ht
          refine ⟨withK i t, withK_ok ⟨h1, h2⟩ t1, ?_⟩
          have hi : i ≠ 1 := fun z => n1 (by rw [z, n_1])
          rw [tm_thg (withK_no t2), withK_k, withK_thg, e1]
          unfold headL
          rw [if_neg hi]
  · rintro ⟨t, h, rfl⟩
    unfold termB
    by_cases n1 : ∃ k, t = .one k
    · obtain ⟨k, rfl⟩ := n1
      have e : tmL (.one k) = numL k := rfl
      rw [e, plain_of (kOk.s h) h.1 h.2]
      rfl
    · have n1 : ∀ k, t ≠ .one k := fun k e => n1 ⟨k, e⟩
      have hk : kOk t.k := by
        cases t <;> first | exact h | exact h.1
      obtain ⟨c, r, e1, e2, e3⟩ := thg_head h n1
      have ot := of_thing h n1
      rw [tm_thg n1]
      by_cases z : t.k = 1
      · have eh : headL t.k = [] := by unfold headL; rw [if_pos z]
        rw [eh, List.nil_append, ot]
        simp
      · have eh : headL t.k = numL t.k ++ [42] := by unfold headL; rw [if_neg z]
        have es : starB (headL t.k ++ thgL t) = true := by
          unfold starB
          rw [eh, findL_at (num_no (by omega) (by omega))]
          simp only
          rw [findL_free e3]
          simp only
          rw [plain_of hk.s hk.1 hk.2, ot]
          have : ¬ numL t.k = [49] := fun e => by
            have a := numIn_num hk.s
            rw [e] at a
            have b : numIn [49] = some 1 := by decide
            rw [b] at a
            exact z (Option.some.inj a).symm
          simp [this]
        rw [es]
        simp
theorem term_tIn (l : List Nat) : termB l = !isNonU (tIn l) := by
  rcases tIn_cases l with ⟨t, h1, h2, e⟩ | ⟨h1, e⟩
  · rw [(term_iff l).mpr ⟨t, h1, h2⟩, e]
    cases t <;> rfl
  · rw [e]
    cases hb : termB l with
    | false => rfl
    | true =>
      obtain ⟨t, h2, h3⟩ := (term_iff l).mp hb
      exact absurd h3 (h1 t h2)
end Far.K02

set_option Elab.async false
set_option linter.all false
set_option maxRecDepth 100000
set_option maxHeartbeats 4000000
namespace Far.K02
open PySem PySem.Spec PyProof.Rows L2 Far.L
/-! ### words of a text -/
def wordsL (l : List Nat) : List (List Nat) := (Txt.split (sT l) (sT plusL)).map sL
theorem words_split (l : List Nat) : Txt.split (sT l) (sT plusL) = (wordsL l).map sT := by
  unfold wordsL
  rw [List.map_map]
  have : (sT ∘ sL) = id := by
    funext x
    exact sT_sL x
  rw [this, List.map_id]
theorem words_rec (l : List Nat) : wordsL l = match findL plusL l with
    | some (a, b) => a :: wordsL b
    | none => [l] := by
  unfold wordsL
  rw [split_eq (sT l) (sT plusL) (by simp [plusL]) kind_plus]
  simp only [sL_sT]
  cases findL plusL l with
  | none => simp
  | some p => simp
theorem words_ne (l : List Nat) : ∃ a t, wordsL l = a :: t := by
  rw [words_rec]
  cases findL plusL l with
  | none => exact ⟨_, _, rfl⟩
  | some p => exact ⟨_, _, rfl⟩
theorem words_join : ∀ (n : Nat) (l : List Nat), l.length ≤ n → joinL (wordsL l) = l
  | n, l, hn => by
    rw [words_rec]
    cases hf : findL plusL l with
    | none => rfl
    | some p =>
      obtain ⟨a, b⟩ := p
      obtain ⟨e1, _⟩ := findL_some hf
      have hl : l.length = a.length + 3 + b.length := by rw [e1]; simp [plusL]; omega
      cases n with
      | zero => omega
      | succ n =>
        have ih := words_join n b (by omega)
        obtain ⟨x, t, e2⟩ := words_ne b
        simp only
        rw [e2] at ih ⊢
        show a ++ plusL ++ joinL (x :: t) = l
        rw [ih, e1]
theorem words_ok : ∀ (n : Nat) (l : List Nat), l.length ≤ n → okL l = true → ∀ w ∈ wordsL l, okL w = true ∧ w.length ≤ l.length
  | n, l, hn, ho => by
    rw [words_rec]
    cases hf : findL plusL l with
    | none =>
      intro w hw
      simp at hw
      subst hw
      exact ⟨ho, Nat.le_refl _⟩
    | some p =>
      obtain ⟨a, b⟩ := p
      obtain ⟨e1, _⟩ := findL_some hf
      have hl : l.length = a.length + 3 + b.length := by rw [e1]; simp [plusL]; omega
      obtain ⟨oa, ob, la, lb⟩ := findL_ok hf ho
      cases n with
      | zero => omega
      | succ n =>
        intro w hw
        rcases List.mem_cons.mp hw with rfl | hw
        · exact ⟨oa, la⟩
        · obtain ⟨h1, h2⟩ := words_ok n b (by omega) ob w hw
          exact ⟨h1, Nat.le_trans h2 lb⟩
theorem words_len (l : List Nat) : (wordsL l).length ≤ l.length + 1 := by
  have : ∀ (n : Nat) (l : List Nat), l.length ≤ n → (wordsL l).length ≤ l.length + 1 := by
    intro n
    induction n with
    | zero =>
      intro l hn
      rw [words_rec]
      cases hf : findL plusL l with
      | none => simp
      | some p =>
        obtain ⟨e1, _⟩ := findL_some hf
        have hl : l.length = p.1.length + 3 + p.2.length := by rw [e1]; simp [plusL]; omega
        omega
    | succ n ih =>
      intro l hn
      rw [words_rec]
      cases hf : findL plusL l with
      | none => simp
      | some p =>
        obtain ⟨a, b⟩ := p
        obtain ⟨e1, _⟩ := findL_some hf
        have hl : l.length = a.length + 3 + b.length := by rw [e1]; simp [plusL]; omega
        have := ih b (by omega)
        simp only [List.length_cons]
        omega
  exact this _ l (Nat.le_refl _)
/-! ### the first wrong word -/
theorem lc_filter {α : Type} {turn : U → Sto → R (Option U)} (g : α → U) (p : α → Bool) (S : Sto) : ∀ (xs : List α) (acc : List U), (∀ x ∈ xs, turn (g x) S = .ok (if p x = true then some (g x) else none) S) → evLc turn (xs.map g) acc S = .ok (.lst (acc ++ (xs.filter p).map g)) S
  | [], acc, _ => by rw [List.map_nil, evLc]; simp
  | x :: xs, acc, ht => by
    rw [List.map_cons, evLc, ht x (by simp)]
    simp only [R.bindN_ok]
    cases hp : p x with
    | true =>
      simp only [if_true]
      rw [lc_filter g p S xs (acc ++ [g x]) (fun w hw => ht w (by simp [hw])), List.filter_cons_of_pos hp]
      simp
    | false =>
      simp only [Bool.false_eq_true, if_false]
      rw [lc_filter g p S xs acc (fun w hw => ht w (by simp [hw])), List.filter_cons_of_neg (by simp [hp])]
def badIx (ws : List (List Nat)) : List Nat := (List.range ws.length).filter fun k => !termB (ws.getD k [])
def badL (ws : List (List Nat)) : List Int := (badIx ws).map (fun (k : Nat) => (k : Int)) ++ (if 5 < ws.length then [5] else [])
theorem ints_map (ns : List Int) : intsOf (ns.map U.int) = some ns := by
  induction ns with
  | nil => rfl
  | cons n ns ih => rw [List.map_cons, intsOf, ih]; rfl
theorem least_eq : ∀ {ns : List Int} {m : Int}, m ∈ ns → (∀ y ∈ ns, m ≤ y) → leastOf ns = some m := by
  intro ns m h1 h2
  cases e : leastOf ns with
  | none =>
    exfalso
    have : ∀ ns : List Int, ns ≠ [] → leastOf ns ≠ none := by
      intro ns
      induction ns with
      | nil => intro h; exact absurd rfl h
      | cons a t ih =>
        intro _
        cases t with
        | nil => simp [leastOf]
        | cons b t =>
          have := ih (by simp)
          rw [leastOf]
          intro z
          exact this (Option.map_eq_none_iff.mp z)
    exact this ns (fun z => by rw [z] at h1; cases h1) e
  | some k =>
    obtain ⟨a1, a2, _⟩ := least_ok e
    have b1 := a2 m h1
    have b2 := h2 k a1
    congr 1
    omega
theorem dat_ints : ∀ ns : List Int, U.datas (ns.map U.int) = some (ns.map PyData.int) ∧ PyData.canLayAll0 (ns.map PyData.int) = true ∧ PyData.depthAll (ns.map PyData.int) = 0
  | [] => ⟨rfl, rfl, rfl⟩
  | n :: ns => by
    obtain ⟨h1, h2, h3⟩ := dat_ints ns
    refine ⟨?_, ?_, ?_⟩
    · rw [List.map_cons, U.datas, h1]; rfl
    · rw [List.map_cons, PyData.canLayAll0, h2]; rfl
    · rw [List.map_cons, PyData.depthAll, h3]; rfl
theorem ne_ints (S : Sto) (ns : List Int) : cop .ne S (.lst (ns.map U.int)) (.lst []) = some (!ns.isEmpty) := by
  obtain ⟨h1, h2, h3⟩ := dat_ints ns
  have hd : U.data (.lst (ns.map U.int)) = some (.list (ns.map PyData.int)) := by rw [U.data, h1]; rfl
  have hs : SeqAt.shaped (.list (ns.map PyData.int)) = true := shaped_list h2 (by omega)
  show (((U.data (.lst (ns.map U.int))).bind fun d => (U.data (.lst [])).bind fun e => if (SeqAt.shaped d && SeqAt.shaped e) = true then some (PyData.eqv d e) else none)).map (!·) = _
  have h0 : U.data (.lst []) = some (.list []) := rfl
  have hs0 : SeqAt.shaped (.list []) = true := rfl
  rw [hd, h0, Option.bind_some, Option.bind_some, hs, hs0]
  cases ns with
  | nil => rfl
  | cons n ns =>
    have : PyData.eqv (.list ((n :: ns).map PyData.int)) (.list []) = false := by
      rw [PyData.eqv]
      rfl
    show some (!PyData.eqv (.list ((n :: ns).map PyData.int)) (.list [])) = _
    rw [this]
    rfl
def wrongAt (l : List Nat) : Option Int := if l = [45] then none else leastOf (badL (wordsL l))
theorem itH : N.has "_law_is_term" = true := rfl
theorem wrong_ok {k : Nat} (hk : 4 ≤ k) {l : List Nat} (hl : okL l = true) (hb : l.length ≤ 5000) (S : Sto) : callN N T k "_law_wrong" [.str (sT l)] S = .ok (optI (wrongAt l)) S := by
  rw [call_eq (by omega) (F := f_law_wrong) rfl rfl]
  have q0 := eq_lit t_dash hl (by decide) S
  unfold wrongAt
  by_cases z : l = [45]
  · rw [decide_eq_true z] at q0
    rw [if_pos z]
    simp [f_law_wrong, startU, q0, optI, endU]
  rw [if_neg z]
  rw [decide_eq_false z] at q0
  have sp : met .split (.str (sT l)) (.str " + ") = some (.newL ((wordsL l).map fun w => U.str (sT w))) := by
    have := split_lit (a := l) t_plus (by decide) (by omega)
    rw [this, show sT [32, 43, 32] = sT plusL from rfl, words_split, List.map_map]
    rfl
  have hw := words_ok l.length l (Nat.le_refl _) hl
  have hn := words_len l
  generalize wordsL l = ws at *
  have lw : fnc .len S [.lst (ws.map fun w => U.str (sT w))] = some (.val (.int ws.length)) := by rw [len_lst]; simp
  have lc := lc_filter (turn := lcTurn N (callN N T (k - 1)) [.val (.str (sT l)), .val (.lst (ws.map fun w => U.str (sT w))), .no, .no] [3] (.nm 3) (.som (.not (.e (.call "_law_is_term" (.cons (.sub (.v 1) (.v 3)) .nil))))) (.v 3)) (fun (j : Nat) => U.int (0 + (j : Int))) (fun j => !termB (ws.getD j [])) S (List.range ws.length) [] (fun j hj => by
    have hj2 : j < ws.length := by simpa using hj
    obtain ⟨o1, o2⟩ := hw ws[j] (List.getElem_mem hj2)
    have ti := isterm_ok (k := k - 1) (by omega) o1 (by omega) S
    have ei : item S (.lst (ws.map fun w => U.str (sT w))) (.int (j : Int)) = some (.str (sT ws[j])) := by
      rw [item_lst, atI_nn _ _ (by omega) (by simpa using hj2)]
      simp [hj2]
    have eg : ws.getD j [] = ws[j] := by simp [List.getD, hj2]
    rw [eg]
    cases ht : termB ws[j] with
    | true =>
      rw [ht] at ti
      simp [lcTurn, wipeS, ei, itH, ti, truth]
    | false =>
      rw [ht] at ti
      simp [lcTurn, wipeS, ei, itH, ti, truth])
  have er : rangeU 0 (ws.length : Int) = (List.range ws.length).map fun (j : Nat) => U.int (0 + (j : Int)) := by
    unfold rangeU
    simp
  have hr : (rangeU 0 (ws.length : Int)).length ≤ 100000 := by rw [er]; simp; omega
  rw [← er] at lc
  have c1 : (ws.length : Int) < 100000 := by omega
  have c2 : (-100000000000000000 : Int) < ws.length := by omega
  have em : ((List.range ws.length).filter fun j => !termB (ws.getD j [])).map (fun (j : Nat) => U.int (0 + (j : Int))) = ((badIx ws).map fun (k : Nat) => (k : Int)).map U.int := by
    rw [List.map_map]
    apply List.map_congr_left
    intro a _
    simp
  rw [em] at lc
  have bl : (badIx ws).length ≤ ws.length := by
    unfold badIx
    have := List.length_filter_le (fun k => !termB (ws.getD k [])) (List.range ws.length)
    simpa using this
  have rp : bop .mul S (.lst [.int 5]) (.int (if decide ((5 : Int) < ws.length) = true then 1 else 0)) = some (.newL ((if 5 < ws.length then [5] else ([] : List Int)).map U.int)) := by
    by_cases z5 : 5 < ws.length
    · have : (5 : Int) < ws.length := by omega
      rw [if_pos z5, decide_eq_true this]
      rfl
    · have : ¬ (5 : Int) < ws.length := by omega
      rw [if_neg z5, decide_eq_false this]
      rfl
  have ad : bop .add S (.lst (((badIx ws).map fun (k : Nat) => (k : Int)).map U.int)) (.lst ((if 5 < ws.length then [5] else ([] : List Int)).map U.int)) = some (.newL ((badL ws).map U.int)) := by
    show (if _ then _ else none) = _
    rw [if_pos (by split <;> simp [big] <;> omega)]
    unfold badL
    rw [List.map_append]
  have ib : ∀ b : Bool, fnc .int S [.bl b] = some (.val (.int (if b = true then 1 else 0))) := fun b => rfl
  have nb := ne_ints S (badL ws)
  have mn : fnc .min S [.lst ((badL ws).map U.int)] = (leastOf (badL ws)).map fun m => .val (.int m) := by
    show ((intsOf ((badL ws).map U.int)).bind fun ns => (leastOf ns).map fun m => PR.val (.int m)) = _
    rw [ints_map]
    rfl
  simp only [List.nil_append] at lc
  simp only [decide_eq_true_eq] at rp
  generalize hB : badL ws = bs at *
  generalize hG : (if 5 < ws.length then [5] else ([] : List Int)).map U.int = gs at *
  generalize hI : ((badIx ws).map fun (k : Nat) => (k : Int)).map U.int = is at *
  cases bs with
  | nil =>
    have nb2 : cop .ne S (.lst []) (.lst []) = some false := nb
    simp only [List.map_nil] at ad
    simp [f_law_wrong, startU, q0, metTy, sp, lw, c1, c2, hr, lc, ib, rp, ad, nb2, leastOf, optI, endU, big]
  | cons b bs =>
    cases hm : leastOf (b :: bs) with
    | none =>
      exfalso
      have : ∀ ns : List Int, ns ≠ [] → leastOf ns ≠ none := by
        intro ns
        induction ns with
        | nil => intro h; exact absurd rfl h
        | cons a t ih =>
          intro _
          cases t with
          | nil => simp [leastOf]
          | cons b t =>
            have := ih (by simp)
            rw [leastOf]
            intro z
            exact this (Option.map_eq_none_iff.mp z)
      exact this (b :: bs) (by simp) hm
    | some m =>
      rw [hm] at mn
      have mn2 : fnc .min S [.lst ((b :: bs).map U.int)] = some (.val (.int m)) := mn
      have nb2 : cop .ne S (.lst ((b :: bs).map U.int)) (.lst []) = some true := nb
      generalize (b :: bs).map U.int = cs at *
      simp [f_law_wrong, startU, q0, metTy, sp, lw, c1, c2, hr, lc, ib, rp, ad, nb2, mn2, optI, endU, big]
end Far.K02

set_option Elab.async false
set_option linter.all false
set_option maxRecDepth 100000
set_option maxHeartbeats 4000000
namespace Far.K02
open PySem PySem.Spec PyProof.Rows L2 Far.L
/-! ### what is told -/
theorem first_some : ∀ {us : List U} {n j : Nat}, firstNon us n = some j → ∃ i, j = n + i ∧ ∃ h : i < us.length, isNonU us[i] = true ∧ ∀ m (hm : m < i), isNonU (us[m]'(by omega)) = false
  | [], n, j, e => by cases e
  | u :: us, n, j, e => by
    rw [firstNon] at e
    split at e
    · rename_i c
      cases e
      exact ⟨0, by omega, by simp, by simpa using c, fun m hm => by omega⟩
    · rename_i c
      obtain ⟨i, h1, h2, h3, h4⟩ := first_some e
      refine ⟨i + 1, by omega, by simp; omega, by simpa using h3, fun m hm => ?_⟩
      cases m with
      | zero => simpa using c
      | succ m => simpa using h4 m (by omega)
theorem first_none : ∀ {us : List U} {n : Nat}, us.any isNonU = true → ∃ j, firstNon us n = some j
  | [], n, h => by cases h
  | u :: us, n, h => by
    rw [firstNon]
    cases c : isNonU u with
    | true => exact ⟨n, rfl⟩
    | false =>
      rw [List.any_cons, c, Bool.false_or] at h
      obtain ⟨j, e⟩ := first_none (n := n + 1) h
      exact ⟨j, by simp [e]⟩
theorem bad_mem {ws : List (List Nat)} {k : Nat} : k ∈ badIx ws ↔ ∃ h : k < ws.length, isNonU (tIn ws[k]) = true := by
  unfold badIx
  rw [List.mem_filter, List.mem_range]
  constructor
  · rintro ⟨h1, h2⟩
    refine ⟨h1, ?_⟩
    have eg : ws.getD k [] = ws[k] := by simp [List.getD, h1]
    rw [eg, term_tIn] at h2
    simpa using h2
  · rintro ⟨h1, h2⟩
    refine ⟨h1, ?_⟩
    have eg : ws.getD k [] = ws[k] := by simp [List.getD, h1]
    rw [eg, term_tIn, h2]
    rfl
/-- what both say of a text -/
theorem both (ws : List (List Nat)) : (((ws.take 5).map tIn).any isNonU = true ∧ ∃ j : Nat, firstNon ((ws.take 5).map tIn) 0 = some j ∧ leastOf (badL ws) = some (j : Int)) ∨
    (((ws.take 5).map tIn).any isNonU = false ∧ 5 < ws.length ∧ leastOf (badL ws) = some 5) ∨
    (((ws.take 5).map tIn).any isNonU = false ∧ ¬ 5 < ws.length ∧ leastOf (badL ws) = none ∧ ∀ w ∈ ws, isNonU (tIn w) = false) := by
  cases ha : ((ws.take 5).map tIn).any isNonU with
  | true =>
    refine .inl ⟨rfl, ?_⟩
    obtain ⟨j, e⟩ := first_none (n := 0) ha
    obtain ⟨i, h1, h2, h3, h4⟩ := first_some e
    have hj : j = i := by omega
    subst hj
    have hlen : ((ws.take 5).map tIn).length = min 5 ws.length := by simp
    have hi : j < ws.length := by omega
    have hi5 : j < 5 := by omega
    refine ⟨j, e, least_eq ?_ ?_⟩
    · unfold badL
      refine List.mem_append_left _ (List.mem_map.mpr ⟨j, bad_mem.mpr ⟨hi, ?_⟩, rfl⟩)
      simpa using h3
    · intro y hy
      unfold badL at hy
      rcases List.mem_append.mp hy with hy | hy
      · obtain ⟨m, hm, rfl⟩ := List.mem_map.mp hy
        obtain ⟨m1, m2⟩ := bad_mem.mp hm
        by_cases z : m < j
        · have := h4 m z
          simp at this
          rw [this] at m2
          cases m2
        · omega
      · split at hy
        · simp at hy
          omega
        · cases hy
  | false =>
    have good : ∀ k (hk : k < ws.length), k < 5 → isNonU (tIn ws[k]) = false := fun k hk h5 => by
      rw [List.any_eq_false] at ha
      have := ha (tIn ws[k]) (List.mem_map.mpr ⟨ws[k], List.mem_take_iff_getElem.mpr ⟨k, by omega, rfl⟩, rfl⟩)
      simpa using this
    by_cases z : 5 < ws.length
    · refine .inr (.inl ⟨rfl, z, least_eq ?_ ?_⟩)
      · unfold badL
        rw [if_pos z]
        simp
      · intro y hy
        unfold badL at hy
        rcases List.mem_append.mp hy with hy | hy
        · obtain ⟨m, hm, rfl⟩ := List.mem_map.mp hy
          obtain ⟨m1, m2⟩ := bad_mem.mp hm
          by_cases z6 : m < 5
          · rw [good m m1 z6] at m2
            cases m2
          · omega
        · rw [if_pos (by assumption)] at hy
          simp at hy
          omega
    · refine .inr (.inr ⟨rfl, z, ?_, fun w hw => ?_⟩)
      · have : badL ws = [] := by
          unfold badL
          rw [if_neg z, List.append_nil, List.map_eq_nil_iff, List.eq_nil_iff_forall_not_mem]
          intro k hk
          obtain ⟨m1, m2⟩ := bad_mem.mp hk
          rw [good k m1 (by omega)] at m2
          cases m2
        rw [this]
        rfl
      · obtain ⟨k, hk, rfl⟩ := List.getElem_of_mem hw
        exact good k hk (by omega)
theorem rdH : N.has "read_formula" = true := rfl
theorem sub_bt : subAny N.sub "BadText" ["BadText"] = some true := rfl
theorem fld_bt : N.fld "BadText" "at" = true := rfl
theorem told_exc {k : Nat} (hk : 1 ≤ k) {l : List Nat} {S : Sto} {i : Int} (h : callN N T (k - 1) "read_formula" [.str (sT l)] S = .exc ⟨"BadText", [("word", .str "badtext"), ("at", .int i)]⟩ S) : callN N T k "_law_told" [.str (sT l)] S = .ok (.tup [.str "BadText", .int i]) S := by
  rw [call_eq hk (F := f_law_told) rfl rfl]
  have lk : ([(("word" : Str), U.str "badtext"), (("at" : Str), U.int i)] : List (Str × U)).lookup (Str.ofString "at") = some (U.int i) := rfl
  simp [f_law_told, startU, rdH, h, triOf, sub_bt, evSu, okN, unname, evX, evXs, fld_bt, lk, endU, big]
theorem told_ok {k : Nat} (hk : 1 ≤ k) {l : List Nat} {S : Sto} {u : U} (h : callN N T (k - 1) "read_formula" [.str (sT l)] S = .ok u S) : callN N T k "_law_told" [.str (sT l)] S = .ok (.tup [.str "told", u]) S := by
  rw [call_eq hk (F := f_law_told) rfl rfl]
  simp [f_law_told, startU, rdH, h, triOf, endU, big]
/-! ### a turn over the texts -/
def lb2 : LSs := match f_law.body with
  | .cons _ (.cons _ (.cons _ (.cons _ (.cons _ (.cons _ (.cons _ (.cons (.loop _ _ b) _))))))) => b
  | _ => .nil
theorem wrH : N.has "_law_wrong" = true := rfl
theorem tlH : N.has "_law_told" = true := rfl
theorem lkH : N.has "_law_like" = true := rfl
theorem ltxH : N.has "_law_text" = true := rfl
theorem nn_i (S : Sto) (i : Int) : cop .notN S (.int i) .non = some true := rfl
theorem isN_i (S : Sto) (i : Int) : cop .isN S (.int i) .non = some false := rfl
theorem nn_n (S : Sto) : cop .notN S .non .non = some false := rfl
theorem isN_n (S : Sto) : cop .isN S .non .non = some true := rfl
/-- a text of the law: signs, not too long -/
def Tx (u : U) : Prop := ∃ l, u = .str (sT l) ∧ okL l = true ∧ l.length ≤ 5000
theorem flat_bt : flatU (.str "BadText") = true := by kernel_rfl
theorem like_bt (S : Sto) (i : Int) : callN N T 9 "_law_like" [.tup [.str "BadText", .int i], .tup [.str "BadText", .int i]] S = .ok (.bl true) S := by
  refine like_seq eLike (by omega) (by simp) S fun u hu => ?_
  simp at hu
  rcases hu with rfl | rfl
  · exact like_flat eLike (by omega) flat_bt S
  · exact like_flat eLike (by omega) rfl S
theorem text_turn {u : U} (hu : Tx u) (a0 a1 a2 a3 a4 a5 a6 a7 a8 a9 a10 : SL) (S : Sto) : ∃ b5 b7 b10, turnOf N (callN N T 9) (.nm 5) lb2 u [a0, a1, a2, a3, a4, a5, a6, a7, a8, a9, a10] S = .nx [a0, a1, a2, a3, a4, b5, a6, b7, a8, a9, b10] S := by
  obtain ⟨l, rfl, ho, hl⟩ := hu
  have w1 := wrong_ok (k := 9) (by omega) ho hl S
  by_cases z : l = [45]
  · have r1 := rd_back eRead (k := 8) (by omega) (ts := []) (by simp) (by simp) S
    have ef : fmL [] = l := by rw [z]; rfl
    rw [ef] at r1
    have t1 := told_ok (k := 9) (by omega) r1
    have lt := lt_ok (k := 9) (by omega) (ts := []) (by simp) (by simp) S
    rw [ef] at lt
    simp only [List.map_nil] at lt t1
    have ww : wrongAt l = none := by unfold wrongAt; rw [if_pos z]
    rw [ww] at w1
    have q := ne_sT ho ho S
    rw [decide_eq_true rfl] at q
    refine ⟨.val (.str (sT l)), .val .non, .val (.tup [.str "told", .tup []]), ?_⟩
    simp [turnOf, lb2, f_law, wrH, w1, tlH, t1, setVals, optI, nn_n, isN_n, it1, ltxH, lt, q, truth]
  · have hw := words_ok l.length l (Nat.le_refl _) ho
    have rd := rd_gen eRead (k := 8) (by omega) ho (by omega) z (words_split l) (fun w hw' => ⟨(hw w hw').1, by have := (hw w hw').2; omega⟩) S
    have ww : wrongAt l = leastOf (badL (wordsL l)) := by unfold wrongAt; rw [if_neg z]
    rw [ww] at w1
    rcases both (wordsL l) with ⟨h1, j, h2, h3⟩ | ⟨h1, h2, h3⟩ | ⟨h1, h2, h3, h4⟩
    · rw [if_pos h1, h2] at rd
      have t1 := told_exc (k := 9) (by omega) rd
      rw [h3] at w1
      have lk := like_bt S (j : Nat)
      refine ⟨.val (.str (sT l)), .val (.int (j : Nat)), .val (.tup [.str "BadText", .int (j : Nat)]), ?_⟩
      simp [turnOf, lb2, f_law, wrH, w1, tlH, t1, setVals, optI, nn_i, isN_i, lkH, lk, truth, big]
    · rw [if_neg (by rw [h1]; simp), if_pos h2] at rd
      have t1 := told_exc (k := 9) (by omega) rd
      rw [h3] at w1
      have lk := like_bt S 5
      refine ⟨.val (.str (sT l)), .val (.int 5), .val (.tup [.str "BadText", .int 5]), ?_⟩
      simp [turnOf, lb2, f_law, wrH, w1, tlH, t1, setVals, optI, nn_i, isN_i, lkH, lk, truth, big]
    · rw [if_neg (by rw [h1]; simp), if_neg h2] at rd
      rw [h3] at w1
      obtain ⟨ts, hts, hlen, hok⟩ : ∃ ts : List L.Tm, (ts.map tmL = wordsL l) ∧ ts.length = (wordsL l).length ∧ ∀ t ∈ ts, t.ok := by
        have : ∀ ws : List (List Nat), (∀ w ∈ ws, isNonU (tIn w) = false) → ∃ ts : List L.Tm, ts.map tmL = ws ∧ ts.length = ws.length ∧ ∀ t ∈ ts, t.ok := by
          intro ws
          induction ws with
          | nil => intro _; exact ⟨[], rfl, rfl, by simp⟩
          | cons w ws ih =>
            intro h
            obtain ⟨ts, e1, e2, e3⟩ := ih fun v hv => h v (by simp [hv])
            rcases tIn_cases w with ⟨t, t1, t2, _⟩ | ⟨_, e⟩
            · refine ⟨t :: ts, by rw [List.map_cons, e1, t2], by simp [e2], fun s hs => ?_⟩
              rcases List.mem_cons.mp hs with rfl | hs
              · exact t1
              · exact e3 s hs
            · have := h w (by simp)
              rw [e] at this
              cases this
        exact this _ h4
      have e5 : ((wordsL l).take 5).map tIn = ts.map tmU := by
        rw [List.take_of_length_le (by omega), ← hts, List.map_map]
        apply List.map_congr_left
        intro s hs
        exact tIn_tm (hok s hs)
      rw [e5] at rd
      have t1 := told_ok (k := 9) (by omega) rd
      have lt := lt_ok (k := 9) (by omega) hok (by omega) S
      have ef : fmL ts = l := by
        unfold fmL
        rw [if_neg (fun e => by
          rw [e] at hts
          obtain ⟨x, t, ex⟩ := words_ne l
          rw [ex] at hts
          cases hts), hts]
        exact words_join _ l (Nat.le_refl _)
      rw [ef] at lt
      have q := ne_sT ho ho S
      rw [decide_eq_true rfl] at q
      refine ⟨.val (.str (sT l)), .val .non, .val (.tup [.str "told", .tup (ts.map tmU)]), ?_⟩
      generalize ts.map tmU = vs at *
      simp [turnOf, lb2, f_law, wrH, w1, tlH, t1, setVals, optI, nn_n, isN_n, it1, ltxH, lt, q, truth]
end Far.K02

set_option Elab.async false
set_option linter.all false
set_option maxRecDepth 100000
set_option maxHeartbeats 4000000
namespace Far.K02
open PySem PySem.Spec PyProof.Rows L2 Far.L
/-! ### the written texts -/
def txB : U → Bool
  | .str z => okL (sL z) && decide (z.cps.size ≤ 100)
  | _ => false
theorem tx_of {u : U} (h : txB u = true) : ∃ l, u = .str (sT l) ∧ okL l = true ∧ l.length ≤ 100 := by
  cases u with
  | str z =>
    obtain ⟨h1, h2⟩ := ba h
    refine ⟨sL z, by rw [sT_sL], h1, ?_⟩
    have := of_decide_eq_true h2
    rw [len_sL]
    exact this
  | _ => cases h
def s0 : Slots := [.no, .val (.ref 0), .no, .no, .no, .no, .no, .no, .no, .no, .no]
def at_ (n : Nat) (ss : LSs) : LSs := match n with
  | 0 => ss
  | n + 1 => at_ n (tailS ss)
def stp (ss : LSs) (n : Nat) (σ : Slots) : Slots := match n with
  | 0 => σ
  | n + 1 => (match evS N (callN N T 9) (headS ss) σ [] with
    | .nx σ' _ => stp (tailS ss) n σ'
    | _ => [])
def lstS : SL → List U
  | .val (.lst us) => us
  | .own us => us
  | _ => []
def oddU : List U := lstS ((stp (at_ 1 f_law.body) 3 s0).getD 2 .no)
def txs0 : List U := lstS ((stp (at_ 1 f_law.body) 4 s0).getD 3 .no)
theorem odd_tx : oddU.all txB = true := by kernel_rfl
theorem odd_len : oddU.length = 41 := by kernel_rfl
theorem txs_tx : txs0.all txB = true := by kernel_rfl
theorem txs_len : txs0.length = 48 := by kernel_rfl
theorem pre_ok (s : SL) (S : Sto) : evSs N (callN N T 9) (at_ 1 f_law.body) [s, .val (.ref 0), .no, .no, .no, .no, .no, .no, .no, .no, .no] S = evSs N (callN N T 9) (at_ 5 f_law.body) [s, .val (.ref 0), .val (.lst oddU), .own txs0, .no, .no, .no, .no, .no, .no, .no] S := by
  have key : ((evS N (callN N T 9) (headS (at_ 1 f_law.body)) [s, .val (.ref 0), .no, .no, .no, .no, .no, .no, .no, .no, .no] S).seq fun σ S => (evS N (callN N T 9) (headS (at_ 2 f_law.body)) σ S).seq fun σ S => (evS N (callN N T 9) (headS (at_ 3 f_law.body)) σ S).seq fun σ S => evS N (callN N T 9) (headS (at_ 4 f_law.body)) σ S) = .nx [s, .val (.ref 0), .val (.lst oddU), .own txs0, .no, .no, .no, .no, .no, .no, .no] S := by kernel_rfl
  have assoc : ∀ (r : RS) (f g : Slots → Sto → RS), (r.seq f).seq g = r.seq fun σ S => (f σ S).seq g := fun r f g => by cases r <;> rfl
  have el : ∀ n, n < 5 → 1 ≤ n → at_ n f_law.body = .cons (headS (at_ n f_law.body)) (at_ (n + 1) f_law.body) := fun n h1 h2 => by
    have : n = 1 ∨ n = 2 ∨ n = 3 ∨ n = 4 := by omega
    rcases this with rfl | rfl | rfl | rfl <;> rfl
  have step : ∀ n, n < 5 → 1 ≤ n → ∀ σ S, evSs N (callN N T 9) (at_ n f_law.body) σ S = (evS N (callN N T 9) (headS (at_ n f_law.body)) σ S).seq (evSs N (callN N T 9) (at_ (n + 1) f_law.body)) := fun n h1 h2 σ S => by
    rw [el n h1 h2, evSs_cons]
    rfl
  rw [step 1 (by omega) (by omega)]
  have f2 : evSs N (callN N T 9) (at_ (1 + 1) f_law.body) = fun σ S => (evS N (callN N T 9) (headS (at_ 2 f_law.body)) σ S).seq (evSs N (callN N T 9) (at_ 3 f_law.body)) := by
    funext σ S; exact step 2 (by omega) (by omega) σ S
  have f3 : evSs N (callN N T 9) (at_ 3 f_law.body) = fun σ S => (evS N (callN N T 9) (headS (at_ 3 f_law.body)) σ S).seq (evSs N (callN N T 9) (at_ 4 f_law.body)) := by
    funext σ S; exact step 3 (by omega) (by omega) σ S
  have f4 : evSs N (callN N T 9) (at_ 4 f_law.body) = fun σ S => (evS N (callN N T 9) (headS (at_ 4 f_law.body)) σ S).seq (evSs N (callN N T 9) (at_ 5 f_law.body)) := by
    funext σ S; exact step 4 (by omega) (by omega) σ S
  rw [f2, f3, f4]
  have : ∀ (a b c d : Slots → Sto → RS) (σ : Slots) (S : Sto) (g : Slots → Sto → RS), ((a σ S).seq fun σ S => (b σ S).seq fun σ S => (c σ S).seq fun σ S => (d σ S).seq g) = ((a σ S).seq fun σ S => (b σ S).seq fun σ S => (c σ S).seq fun σ S => d σ S).seq g := by
    intro a b c d σ S g
    cases a σ S <;> try rfl
    rename_i σ1 S1
    simp only [RS.seq_nx]
    cases b σ1 S1 <;> try rfl
    rename_i σ2 S2
    simp only [RS.seq_nx]
    cases c σ2 S2 <;> rfl
  rw [this (fun σ S => evS N (callN N T 9) (headS (at_ 1 f_law.body)) σ S) (fun σ S => evS N (callN N T 9) (headS (at_ 2 f_law.body)) σ S) (fun σ S => evS N (callN N T 9) (headS (at_ 3 f_law.body)) σ S) (fun σ S => evS N (callN N T 9) (headS (at_ 4 f_law.body)) σ S), key]
  rfl
end Far.K02

set_option Elab.async false
set_option linter.all false
set_option maxRecDepth 100000
set_option maxHeartbeats 4000000
namespace Far.K02
open PySem PySem.Spec PyProof.Rows L2 Far.L
/-! ### drawn texts -/
def words0 (ts : List L.Tm) : List (List Nat) := if ts = [] then [[45]] else ts.map tmL
theorem words0_split {ts : List L.Tm} (h : ∀ t ∈ ts, t.ok) : Txt.split (sT (fmL ts)) (sT plusL) = (words0 ts).map sT := by
  unfold words0 fmL
  by_cases z : ts = []
  · rw [if_pos z, if_pos z]
    exact split_join (xs := [[45]]) (by simp) (by simp)
  · rw [if_neg z, if_neg z]
    exact split_join (by simpa using z) fun x hx => by
      obtain ⟨s, hs, rfl⟩ := List.mem_map.mp hx
      exact tm_no32 (h s hs)
theorem words0_len {ts : List L.Tm} (hl : ts.length ≤ 3) : 1 ≤ (words0 ts).length ∧ (words0 ts).length ≤ 3 := by
  unfold words0
  by_cases z : ts = []
  · rw [if_pos z]; simp
  · rw [if_neg z]
    have := List.length_pos_iff.mpr z
    simp
    omega
theorem words0_ok {ts : List L.Tm} (h : ∀ t ∈ ts, t.ok) : ∀ w ∈ words0 ts, okL w = true ∧ w.length ≤ 80 := by
  unfold words0
  by_cases z : ts = []
  · rw [if_pos z]
    intro w hw
    simp at hw
    subst hw
    exact ⟨rfl, by simp⟩
  · rw [if_neg z]
    intro w hw
    obtain ⟨s, hs, rfl⟩ := List.mem_map.mp hw
    exact ⟨tmL_ok (h s hs), tmL_len (h s hs)⟩
def lb1 : LSs := match at_ 5 f_law.body with
  | .cons (.loop _ _ b) _ => b
  | _ => .nil
theorem fH : N.has "_law_formula" = true := rfl
theorem pH : N.has "_law_pull" = true := rfl
theorem oH : N.has "_law_of" = true := rfl
def signsL : List Nat := [32, 43, 42, 64, 91, 93, 48, 45, 49, 97, 98, 103, 46]
theorem t_signs : Str.ofString " +*\x40[]0-1abg." = sT signsL := sT_lit (by decide)
theorem list_lit {z : String} {l : List Nat} (hz : Str.ofString z = sT l) (hl : l.length ≤ 1000) (S : Sto) : fnc .list S [.str (Str.ofString z)] = some (.newL (l.map fun c => U.str (sT [c]))) := by
  rw [hz]
  show (if (sT l).length ≤ big then some (PR.newL (signsU (sT l))) else none) = _
  rw [if_pos (by simp [big]; omega), signs_sT]
theorem draw_turn (u : U) (s a4 a5 a6 a7 a8 a9 a10 : SL) (us : List U) (hu : ∀ x ∈ us, Tx x) (hlen : us.length ≤ 1000) (bg : SO) (hb : Bg bg) : ∃ b4 b5 b6 b7 b8 b9 x bg', turnOf N (callN N T 9) (.nm 4) lb1 u [s, .val (.ref 0), .val (.lst oddU), .own us, a4, a5, a6, a7, a8, a9, a10] [bg] = .nx [s, .val (.ref 0), .val (.lst oddU), .own (us ++ [x]), b4, b5, b6, b7, b8, b9, a10] [bg'] ∧ Tx x ∧ Bg bg' := by
  obtain ⟨ts, o1, e1, p1, l1, b1⟩ := form_tm eForm (k := 9) (by omega) (R := []) hb names_abc (near := 9) (by decide) (by decide)
  have lt := lt_ok (k := 9) (by omega) p1 (by omega) [o1]
  have fl := fmL_len p1 (by omega)
  have sp : met .split (.str (sT (fmL ts))) (.str " + ") = some (.newL ((words0 ts).map fun w => U.str (sT w))) := by
    have := split_lit (a := fmL ts) t_plus (by decide) (by omega)
    rw [this, show sT [32, 43, 32] = sT plusL from rfl, words0_split p1, List.map_map]
    rfl
  obtain ⟨n1, n3⟩ := words0_len l1
  have wo := words0_ok p1
  generalize words0 ts = ws at *
  have lw : ∀ S, fnc .len S [.lst (ws.map fun w => U.str (sT w))] = some (.val (.int ws.length)) := fun S => by rw [len_lst]; simp
  obtain ⟨at1, o2, e2, q1, q2, b2⟩ := pull_ok eForm.toEPull (k := 9) (by omega) (R := []) b1 (m := ws.length) (by omega) (by omega)
  obtain ⟨m, rfl⟩ : ∃ m : Nat, at1 = m := ⟨at1.toNat, by omega⟩
  have hm : m < ws.length := by omega
  obtain ⟨sg, o3, e3, m3, b3⟩ := of_ok eForm.toEOf (k := 9) (by omega) (R := []) b2 (us := signsL.map fun c => U.str (sT [c])) (by simp [signsL]) (by simp [signsL])
  obtain ⟨c, hc, rfl⟩ := List.mem_map.mp m3
  have oc : okL [c] = true := by
    have : ∀ c ∈ signsL, okL [c] = true := by decide
    exact this c hc
  obtain ⟨ow, lw'⟩ := wo ws[m] (List.getElem_mem hm)
  have ei : ∀ S, item S (.lst (ws.map fun w => U.str (sT w))) (.int (m : Int)) = some (.str (sT ws[m])) := fun S => by
    rw [item_lst, atI_nn _ _ (by omega) (by simpa using hm)]
    simp [hm]
  generalize hW : ws[m] = w at *
  obtain ⟨sp1, o4, e4, r1, r2, b4⟩ := pull_ok eForm.toEPull (k := 9) (by omega) (R := []) b3 (m := (w.length : Int) + 1) (by omega) (by omega)
  obtain ⟨d, rfl⟩ : ∃ d : Nat, sp1 = d := ⟨sp1.toNat, by omega⟩
  obtain ⟨od, o5, e5, m5, b5⟩ := of_ok eForm.toEOf (k := 9) (by omega) (R := []) b4 (us := oddU) (fun z => by have := odd_len; rw [z] at this; cases this) (by rw [odd_len]; decide)
  obtain ⟨lo, rfl, oo, lol⟩ := tx_of (List.all_eq_true.mp odd_tx od m5)
  obtain ⟨p2, o6, e6, r3, r4, b6⟩ := pull_ok eForm.toEPull (k := 9) (by omega) (R := []) b5 (m := 2) (by omega) (by omega)
  obtain ⟨g, rfl⟩ : ∃ g : Nat, p2 = g := ⟨p2.toNat, by omega⟩
  have wb : w.length ≤ big := by simp [big]; omega
  have c1 : ∀ S, cut S (.str (sT w)) none (some (d : Int)) = some (.val (.str (sT (w.take d)))) := fun S => cut_to S wb d
  have c2 : ∀ S, cut S (.str (sT w)) (some ((d : Int) + (g : Int))) none = some (.val (.str (sT (w.drop (d + g))))) := fun S => by
    have := cut_from S wb (d + g)
    simpa using this
  have ad1 : ∀ S, bop .add S (.str (sT (w.take d))) (.str (sT [c])) = some (.val (.str (sT (w.take d ++ [c])))) := fun S => add_sT S (by simp [big]; omega)
  have ad2 : ∀ S, bop .add S (.str (sT (w.take d ++ [c]))) (.str (sT (w.drop (d + g)))) = some (.val (.str (sT (w.take d ++ [c] ++ w.drop (d + g))))) := fun S => add_sT S (by simp [big]; omega)
  obtain ⟨nw, o7, e7, m7, b7⟩ := of_ok eForm.toEOf (k := 9) (by omega) (R := []) b6 (us := [.str (sT lo), .str (sT (w.take d ++ [c] ++ w.drop (d + g)))]) (by simp) (by simp)
  have hx : ∃ x, nw = .str (sT x) ∧ okL x = true ∧ x.length ≤ 200 := by
    simp only [List.mem_cons, List.not_mem_nil, or_false] at m7
    rcases m7 with rfl | rfl
    · exact ⟨lo, rfl, oo, by omega⟩
    · refine ⟨_, rfl, ?_, by simp; omega⟩
      rw [okL_app, okL_app, okL_take d ow, okL_drop (d + g) ow, oc]
      rfl
  obtain ⟨x, rfl, ox, lx⟩ := hx
  have ix : ixN (ws.map fun w => U.str (sT w)).length (m : Int) = some m := by
    unfold ixN
    rw [if_pos (by omega), if_pos (by simpa using hm)]
    simp
  have es : ((ws.map fun w => U.str (sT w)).set m (.str (sT x))) = (ws.set m x).map fun w => U.str (sT w) := by
    rw [List.map_set]
  have mj := met_join (xs := ws.set m x) (fun y hy => by
    rcases List.mem_or_eq_of_mem_set hy with hy | rfl
    · have := (wo y hy).2
      omega
    · omega) (by simp; omega)
  have tx : Tx (.str (sT (joinL (ws.set m x)))) := by
    refine ⟨_, rfl, join_ok fun y hy => ?_, ?_⟩
    · rcases List.mem_or_eq_of_mem_set hy with hy | rfl
      · exact (wo y hy).1
      · exact ox
    · have := join_len (xs := ws.set m x) (n := 200) fun y hy => by
        rcases List.mem_or_eq_of_mem_set hy with hy | rfl
        · have := (wo y hy).2
          omega
        · exact lx
      simp only [List.length_set] at this
      have h2 : ws.length * (200 + 3) ≤ 3 * 203 := Nat.mul_le_mul_right _ n3
      omega
  have lt2 : ∀ S, fnc .len S [.str (sT w)] = some (.val (.int w.length)) := fun S => len_sTu S wb
  have ll : ∀ S, fnc .list S [.str " +*\x40[]0-1abg."] = some (.newL (signsL.map fun c => U.str (sT [c]))) := fun S => list_lit t_signs (by simp [signsL]) S
  have ub : us.length < 100000 := by omega
  refine ⟨.val u, .val (.str (sT w)), .own ((ws.set m x).map fun w => U.str (sT w)), .val (.int m), .val (.int d), .val (.str (sT [c])), .str (sT (joinL (ws.set m x))), o7, ?_, tx, b7⟩
  rw [← es] at mj ⊢
  generalize hA : ws.map (fun w => U.str (sT w)) = as at *
  generalize hS : signsL.map (fun c => U.str (sT [c])) = ss at *
  simp only [List.append_assoc, List.cons_append, List.nil_append] at e7 ad2
  simp [turnOf, lb1, at_, tailS, f_law, fH, e1, ltxH, lt, metTy, sp, pH, lw, e2, oH, ll, e3, ei, setVals, lt2, e4, e5, c1, ad1, e6, c2, ad2, e7, ix, mj, ub, big]
theorem for_own (turn : U → Slots → Sto → RS) (I : Nat → Slots → Sto → Prop) (B : Nat) : ∀ (us : List U) (n : Nat) (σ : Slots) (S : Sto), n + us.length ≤ B → (∀ u ∈ us, ∀ n σ S, n < B → I n σ S → ∃ σ' S', turn u σ S = .nx σ' S' ∧ I (n + 1) σ' S') → I n σ S → ∃ σ' S', evFor turn us σ S = .nx σ' S' ∧ I (n + us.length) σ' S'
  | [], n, σ, S, _, _, h => ⟨σ, S, rfl, h⟩
  | u :: us, n, σ, S, hB, ht, h => by
    simp only [List.length_cons] at hB
    obtain ⟨σ1, S1, e1, h1⟩ := ht u (by simp) n σ S (by omega) h
    obtain ⟨σ2, S2, e2, h2⟩ := for_own turn I B us (n + 1) σ1 S1 (by omega) (fun w hw => ht w (by simp [hw])) h1
    refine ⟨σ2, S2, ?_, ?_⟩
    · rw [evFor, e1]
      exact e2
    · have : n + (u :: us).length = n + 1 + us.length := by simp; omega
      rw [this]
      exact h2
def In1 (s : SL) (n : Nat) (σ : Slots) (S : Sto) : Prop := ∃ us a4 a5 a6 a7 a8 a9 bg, σ = [s, .val (.ref 0), .val (.lst oddU), .own us, a4, a5, a6, a7, a8, a9, .no] ∧ S = [bg] ∧ (∀ x ∈ us, Tx x) ∧ us.length = 48 + n ∧ Bg bg
theorem loop1 (s : SL) (o : SO) (hb : Bg o) : ∃ σ' S', evFor (turnOf N (callN N T 9) (.nm 4) lb1) (rangeU 0 8) [s, .val (.ref 0), .val (.lst oddU), .own txs0, .no, .no, .no, .no, .no, .no, .no] [o] = .nx σ' S' ∧ In1 s 8 σ' S' := by
  have hr : (rangeU 0 8).length = 8 := by decide
  have := for_own (turnOf N (callN N T 9) (.nm 4) lb1) (In1 s) 8 (rangeU 0 8) 0 [s, .val (.ref 0), .val (.lst oddU), .own txs0, .no, .no, .no, .no, .no, .no, .no] [o] (by rw [hr]; decide) (fun u _ n σ S hn h => by
    obtain ⟨us, a4, a5, a6, a7, a8, a9, bg, rfl, rfl, hu, hl, hbg⟩ := h
    obtain ⟨b4, b5, b6, b7, b8, b9, x, bg', e, tx, hb'⟩ := draw_turn u s a4 a5 a6 a7 a8 a9 .no us hu (by omega) bg hbg
    refine ⟨_, _, e, us ++ [x], b4, b5, b6, b7, b8, b9, bg', rfl, rfl, fun y hy => ?_, by simp [hl]; omega, hb'⟩
    rcases List.mem_append.mp hy with hy | hy
    · exact hu y hy
    · simp at hy
      subst hy
      exact tx) ⟨txs0, .no, .no, .no, .no, .no, .no, o, rfl, rfl, fun x hx => by
      obtain ⟨l, h1, h2, h3⟩ := tx_of (List.all_eq_true.mp txs_tx x hx)
      exact ⟨l, h1, h2, by omega⟩, by rw [txs_len], hb⟩
  rw [hr] at this
  simpa using this
theorem loop2 (S : Sto) (us : List U) (hu : ∀ x ∈ us, Tx x) (a0 a1 a2 a3 a4 a5 a6 a7 a8 a9 a10 : SL) : ∃ b5 b7 b10, evFor (turnOf N (callN N T 9) (.nm 5) lb2) us [a0, a1, a2, a3, a4, a5, a6, a7, a8, a9, a10] S = .nx [a0, a1, a2, a3, a4, b5, a6, b7, a8, a9, b10] S := by
  induction us generalizing a5 a7 a10 with
  | nil => exact ⟨_, _, _, rfl⟩
  | cons u us ih =>
    obtain ⟨b5, b7, b10, e⟩ := text_turn (hu u (by simp)) a0 a1 a2 a3 a4 a5 a6 a7 a8 a9 a10 S
    obtain ⟨c5, c7, c10, e2⟩ := ih (fun x hx => hu x (by simp [hx])) b5 b7 b10
    refine ⟨c5, c7, c10, ?_⟩
    rw [evFor, e]
    exact e2
theorem law_plain (ns : List Int) (hl : ns.length ≤ 63) : ∃ S', callN N T 10 "law" [.fz (ns.map U.int)] [] = .ok (.bl true) S' := by
  obtain ⟨o, e1, b1⟩ := bag_ok (N := N) (T := T) (k := 9) (by omega) rfl ns hl
  have bH : N.has "_law_bag" = true := rfl
  have el : f_law.body = .cons (.asg (.nm 1) (.call "_law_bag" (.cons (.v 0) .nil))) (at_ 1 f_law.body) := rfl
  have e5 : at_ 5 f_law.body = .cons (.loop (.nm 4) (.rng1 (.c (.int 8))) lb1) (.cons (.relO 3) (.cons (.loop (.nm 5) (.seq (.v 3)) lb2) (.cons (.ret (.c (.bl true))) .nil))) := rfl
  obtain ⟨σ1, S1, f1, us, a4, a5, a6, a7, a8, a9, bg, rfl, rfl, hu, hn, hbg⟩ := loop1 (.val (.fz (ns.map U.int))) o b1
  obtain ⟨b5, b7, b10, f2⟩ := loop2 [bg] us hu (.val (.fz (ns.map U.int))) (.val (.ref 0)) (.val (.lst oddU)) (.val (.lst us)) a4 a5 a6 a7 a8 a9 .no
  refine ⟨[bg], ?_⟩
  rw [call_eq (by omega) (F := f_law) rfl rfl]
  show endU (evSs N (callN N T 9) f_law.body [.val (.fz (ns.map U.int)), .no, .no, .no, .no, .no, .no, .no, .no, .no, .no] []) = _
  have h1 : evSs N (callN N T 9) f_law.body [.val (.fz (ns.map U.int)), .no, .no, .no, .no, .no, .no, .no, .no, .no, .no] [] = evSs N (callN N T 9) (at_ 1 f_law.body) [.val (.fz (ns.map U.int)), .val (.ref 0), .no, .no, .no, .no, .no, .no, .no, .no, .no] [o] := by
    generalize at_ 1 f_law.body = B at el
    rw [el]
    simp [bH, e1]
  rw [h1, pre_ok, e5]
  simp [f1, f2, endU]
end Far.K02

set_option Elab.async false
set_option linter.all false
set_option maxRecDepth 100000
set_option maxHeartbeats 4000000
namespace Far.K02
open PySem PySem.Spec PyProof.Rows L2 Far.L
theorem law_f (P : Program) (w : World) (K : PySem.W.Frag) (h : Heap) (mg : Str → Option Value) (X : K.In h) (G : h.Ns mainGlobals mg) (c : He.SaysT fa fn ts w K) (k : ck K = true) (f : Addr) (hf : mg ("law" : Str) = some (.ref f)) :
    ∃ fd : FuncData, (∀ (s : Shared) (v : Value), BindsTo s fd ⟨[v], []⟩ [("_law_script", v)]) ∧ ∀ base : Heap, K.In base → base.Ns mainGlobals mg → FnOk P w K mg base (L2.CX P w) 13 f fd ["_law_script"] (spOf K w mg (callN N T 10) "law" ["_law_script"]) := by
  obtain ⟨fd, F⟩ := c.d.def_ 23 (d := d_f_law) rfl
  have b := FunD.bindsA (ps := ["_law_script"]) F fun _ _ _ _ _ _ us hl => match us, hl with | [_], _ => rfl
  have e := hf.symm.trans (He.glo_ok X G (c.d.fact 21 (f := .glo "law") rfl))
  cases e
  exact ⟨fd, fun s v => b s [v] rfl, fun base KB NB => call_step (glb (P := P) X G c k base) (calls_ok (glb (P := P) X G c k base) 9) (F := f_law) rfl F c_f_law.1 c_f_law.2⟩
end Far.K02
open PySem PySem.W PySem.Calls PyProof.Rows
theorem far_end (plain : ∀ ns : List Int, ns.length ≤ 63 → ∃ S', Far.callN Far.K02.N Far.K02.T 10 "law" [.fz (ns.map Far.U.int)] [] = .ok (.bl true) S') : PySem.Challenge.rw_farsheet_k02_texts_of_no_formula.Holds := by
  w_on; o_law
  refine HandSHeadRun.head_any (r := OpenLaw.row PySem.Challenge.rw_farsheet_k02_texts_of_no_formula) (q := view (OpenLaw.row PySem.Challenge.rw_farsheet_k02_texts_of_no_formula).prog [32]) (H := Far.K02.hk) (ob := Far.K02.ob) (M := 20000) (loose := Far.K02.loose) (d := HandSHeadRun.topDef (OpenLaw.row PySem.Challenge.rw_farsheet_k02_texts_of_no_formula).prog 32) (kwd := []) Far.K02.ob_eq
    (by kernel_rfl) (fun s => by kernel_rfl) Far.K02.run (by kernel_rfl) (by kernel_rfl) (by kernel_rfl) (by rfl) (by first | assumption | decide +kernel) (by decide +kernel) ⟨rfl, rfl, rfl, rfl, rfl, by decide +kernel⟩ ?hw ?hc
  case hw => w_witness2
  case hc =>
    refine Far.walk_far (l := PySem.Challenge.rw_farsheet_k02_texts_of_no_formula) (n := 63) (k := 13) (x := "_law_script") rfl (by decide) (by kernel_rfl) ⟨rfl, by decide, by decide⟩ ?F
    intro w mg fa h Y G hmg0
    obtain ⟨K, KX, c, k⟩ := Y
    have hmg : mg ("law" : PySem.Str) = some (.ref fa) := by
      have e : (HandSHeadRun.topDef (OpenLaw.row PySem.Challenge.rw_farsheet_k02_texts_of_no_formula).prog 32).name = ("law" : PySem.Str) := by kernel_rfl
      rw [← e]
      exact hmg0
    obtain ⟨fd, hb, hF⟩ := Far.K02.law_f (PySem.Challenge.rw_farsheet_k02_texts_of_no_formula).prog w K h mg KX G c k fa hmg
    exact ⟨K, fd, _, KX, hb, fun H a ns hl _ hS => Far.sp_start hS (plain ns hl), hF⟩

set_option Elab.async false
set_option maxRecDepth 100000
theorem PySem.Challenge.cw_farsheet_k02_texts_of_no_formula_holds : PySem.Challenge.rw_farsheet_k02_texts_of_no_formula.Holds := by
  exact far_end Far.K02.law_plain
