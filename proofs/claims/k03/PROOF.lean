import PyProof.Rows.All
import Wide.All
import OpenK.AllK
import Wide.FinOn
import HandS.ForMost
import HandS.ForExc
import HandS.IsInst
import HandS.TupAny
import HandS.ExcInit
import HandS.TryMany
import HandS.Wide
import HandS.HeadHook3
import HandS.Flow
import HandS.Style
import HandS.ClsMeth
import HandS.Defaults
import HandS.Head0
import HandS.Head1
import HandS.Head2
import HandS.HeadEnd
import HandS.HeadHook2
import HandS.EndBits
import HandS.Words
import PySem.Challenge.RW_farsheet_k03_formulas_looked_at
set_option Elab.async false
set_option linter.all false
set_option maxRecDepth 100000
set_option maxHeartbeats 4000000
/-! A small language for the fragment of Python that the program and its laws use, and its evaluator. -/
namespace Far
open PySem L2

/-- values: tuples and lists that no longer change are trees; ref: a thing in the store -/
inductive U where
  | non
  | bl (b : Bool)
  | int (i : Int)
  | str (s : Str)
  | tup (us : List U)
  | lst (us : List U)
  | dct (ks : List Key) (us : List U)
  /-- a dict of the module, text keys -/
  | kdt (ks : List Key) (us : List U)
  /-- a list from outside -/
  | fz (us : List U)
  | ref (n : Nat)

/-- the store: things with an identity -/
inductive SO where
  | lst (us : List U)
abbrev Sto := List SO

structure Exc where
  cls : Str
  fs : List (Str × U)

inductive R (α : Type) where
  | ok (a : α) (S : Sto)
  | exc (x : Exc) (S : Sto)
  | bad

def R.bind {α β : Type} (r : R α) (k : α → Sto → R β) : R β := match r with
  | .ok a S => k a S
  | .exc x S => .exc x S
  | .bad => .bad
/-- no error may leave -/
def R.bindN {α β : Type} (r : R α) (k : α → Sto → R β) : R β := match r with
  | .ok a S => k a S
  | _ => .bad
@[simp] theorem R.bindN_ok {α β : Type} (a : α) (S : Sto) (k : α → Sto → R β) : (R.ok a S).bindN k = k a S := rfl
@[simp] theorem R.bindN_exc {α β : Type} (x : Exc) (S : Sto) (k : α → Sto → R β) : (R.exc x S : R α).bindN k = .bad := rfl
@[simp] theorem R.bindN_bad {α β : Type} (k : α → Sto → R β) : (R.bad : R α).bindN k = .bad := rfl
theorem R.bindN_bind {α β γ : Type} (r : R α) (f : α → Sto → R β) (g : β → Sto → R γ) : (r.bind f).bindN g = r.bindN fun a S => (f a S).bindN g := by cases r <;> rfl
@[simp] theorem R.bind_ok {α β : Type} (a : α) (S : Sto) (k : α → Sto → R β) : (R.ok a S).bind k = k a S := rfl
@[simp] theorem R.bind_exc {α β : Type} (x : Exc) (S : Sto) (k : α → Sto → R β) : (R.exc x S : R α).bind k = .exc x S := rfl
@[simp] theorem R.bind_bad {α β : Type} (k : α → Sto → R β) : (R.bad : R α).bind k = .bad := rfl

/-! ### data -/
mutual
def U.data : U → Option PyData
  | .non => some .none
  | .bl b => some (.bool b)
  | .int i => some (.int i)
  | .str s => some (.str s)
  | .tup us => (U.datas us).map .tuple
  | .lst us => (U.datas us).map .list
  | .dct _ _ => none
  | .kdt _ _ => none
  | .fz _ => none
  | .ref _ => none
def U.datas : List U → Option (List PyData)
  | [] => some []
  | u :: us => (U.data u).bind fun d => (U.datas us).map fun ds => d :: ds
end
def pyEq (S : Sto) (a b : U) : Option Bool := (U.data a).bind fun d => (U.data b).bind fun e =>
  if (SeqAt.shaped d && SeqAt.shaped e) = true then some (PyData.eqv d e) else none

/-- a key -/
def U.key : U → Option Key
  | .int i => some (.inl i)
  | .str s => some (.inr s)
  | _ => none
/-- the items of what is a list -/
def U.items (S : Sto) : U → Option (List U)
  | .lst us => some us
  | .fz us => some us
  | .ref n => match S[n]? with
    | some (.lst us) => some us
    | none => none
  | _ => none
def flat : U → Bool
  | .non => true
  | .bl _ => true
  | .int _ => true
  | .str _ => true
  | _ => false
def flatV? : U → Option V
  | .non => some .non
  | .bl b => some (.bl b)
  | .int i => some (.int i)
  | .str s => some (.str s)
  | _ => none
/-- x among flat things -/
def inFlat (x : U) (us : List U) : Option Bool := (flatV? x).bind fun v => (us.mapM flatV?).map fun vs => inV v vs
def dctGet (ks : List Key) (us : List U) (k : Key) : Option U := match ks, us with
  | q :: ks, u :: us => if q = k then some u else dctGet ks us k
  | _, _ => none
def cutL {α : Type} (xs : List α) (lo hi : Option Int) : List α := (xs.drop (HT.sIx xs.length 0 lo)).take (HT.sIx xs.length xs.length hi - HT.sIx xs.length 0 lo)

/-! ### primitive operations -/
inductive Bop where
  | add | sub | mul | fdiv | mod | pow
  deriving DecidableEq
inductive Cop where
  | eq | ne | lt | le | gt | ge | isin | notin | isN | notN
  deriving DecidableEq
inductive Ty where
  | int | bool | str | tuple | list | dict
  deriving DecidableEq
inductive Fn where
  | len | all | any | tuple | list | abs
  deriving DecidableEq

/-- what a primitive gives: a value, or a new list -/
inductive PR where
  | val (u : U)
  | newL (us : List U)

def big : Nat := 100000

def bop (o : Bop) (S : Sto) (a b : U) : Option PR := match o, a, b with
  | .add, .int i, .int j => some (.val (.int (i + j)))
  | .sub, .int i, .int j => some (.val (.int (i - j)))
  | .mul, .int i, .int j => if i.natAbs < 18446744073709551616 ∨ j.natAbs < 18446744073709551616 then some (.val (.int (i * j))) else none
  | .fdiv, .int i, .int j => if 0 < j ∧ j < 18446744073709551616 then some (.val (.int (i / j))) else none
  | .mod, .int i, .int j => if 0 < j then some (.val (.int (i % j))) else none
  | .pow, .int i, .int j => if 0 ≤ j ∧ j ≤ 1000 ∧ i.natAbs < 18446744073709551616 then some (.val (.int (i ^ j.toNat))) else none
  | .add, .lst us, .lst ws => if us.length + ws.length ≤ big then some (.newL (us ++ ws)) else none
  | .add, .tup us, .tup ws => if us.length + ws.length ≤ big then some (.val (.tup (us ++ ws))) else none
  | _, _, _ => none
def cop (o : Cop) (S : Sto) (a b : U) : Option Bool := match o with
  | .eq => pyEq S a b
  | .ne => (pyEq S a b).map (!·)
  | .lt => match a, b with | .int i, .int j => some (decide (i < j)) | _, _ => none
  | .le => match a, b with | .int i, .int j => some (decide (i ≤ j)) | _, _ => none
  | .gt => match a, b with | .int i, .int j => some (decide (j < i)) | _, _ => none
  | .ge => match a, b with | .int i, .int j => some (decide (j ≤ i)) | _, _ => none
  | .isN => match a, b with | .ref _, _ => none | .non, .non => some true | _, .non => some false | _, _ => none
  | .notN => match a, b with | .ref _, _ => none | .non, .non => some false | _, .non => some true | _, _ => none
  | .isin => match b with
    | .tup us => inFlat a us
    | .lst us => inFlat a us
    | .dct ks us => (U.key a).map fun k => (dctGet ks us k).isSome
    | .kdt ks us => match a with
      | .str x => some (dctGet ks us (.inr x)).isSome
      | _ => none
    | _ => none
  | .notin => match b with
    | .tup us => (inFlat a us).map (!·)
    | .lst us => (inFlat a us).map (!·)
    | .dct ks us => (U.key a).map fun k => !(dctGet ks us k).isSome
    | .kdt ks us => match a with
      | .str x => some (!(dctGet ks us (.inr x)).isSome)
      | _ => none
    | _ => none
def tyIs : Ty → U → Option Bool
  | .int, .int _ => some true
  | .int, .bl _ => some true
  | .bool, .bl _ => some true
  | .str, .str _ => some true
  | .tuple, .tup _ => some true
  | .list, .lst _ => some true
  | .dict, .dct _ _ => some true
  | _, .ref _ => none
  | _, .fz _ => none
  | _, .kdt _ _ => none
  | _, _ => some false
def tyAny : List Ty → U → Option Bool
  | [], _ => some false
  | t :: ts, u => (tyIs t u).bind fun b => if b = true then some true else tyAny ts u
def bls : List U → Option (List Bool)
  | [] => some []
  | .bl b :: us => (bls us).map (b :: ·)
  | _ :: _ => none
def fnc (f : Fn) (S : Sto) (us : List U) : Option PR := match f, us with
  | .len, [.tup ws] => some (.val (.int ws.length))
  | .len, [.dct ks _] => some (.val (.int ks.length))
  | .len, [u] => (U.items S u).map fun ws => .val (.int ws.length)
  | .all, [u] => (U.items S u).bind fun ws => (bls ws).map fun bs => .val (.bl (bs.all id))
  | .any, [u] => (U.items S u).bind fun ws => (bls ws).map fun bs => .val (.bl (bs.any id))
  | .tuple, [.tup ws] => some (.val (.tup ws))
  | .tuple, [u] => (U.items S u).map fun ws => .val (.tup ws)
  | .list, [.tup ws] => some (.newL ws)
  | .list, [u] => (U.items S u).map fun ws => .newL ws
  | .abs, [.int i] => some (.val (.int (if i < 0 then -i else i)))
  | _, _ => none
/-- o[i] -/
def item (S : Sto) (o i : U) : Option U := match o, i with
  | .tup us, .int j => atI us j
  | .dct ks us, k => (U.key k).bind fun k => dctGet ks us k
  | .kdt ks us, .str x => dctGet ks us (.inr x)
  | o, .int j => (U.items S o).bind fun us => atI us j
  | _, _ => none
/-- o[lo:hi] -/
def cut (S : Sto) (o : U) (lo hi : Option Int) : Option PR := match o with
  | .tup us => some (.val (.tup (cutL us lo hi)))
  | o => (U.items S o).map fun us => .newL (cutL us lo hi)
/-- truth -/
def truth (S : Sto) : U → Option Bool
  | .non => some false
  | .bl b => some b
  | .int i => some (i != 0)
  | .tup us => some (!us.isEmpty)
  | .lst us => some (!us.isEmpty)
  | _ => none

/-! ### slots -/
inductive SL where
  | no
  | val (u : U)
  | own (us : List U)
abbrev Slots := List SL
def unown : SL → SL
  | .own us => .val (.lst us)
  | s => s
def wipeS (σ : Slots) : List Nat → Slots
  | [] => σ
  | i :: is => wipeS (σ.set i .no) is

/-! ### syntax -/
/-- targets: a slot; some targets; some slots and one for the rest -/
inductive LT where
  | nm (i : Nat)
  | tp (ts : List LT)
  | st (is : List Nat) (j : Nat)

mutual
inductive LE where
  | bad
  | c (u : U)
  | v (i : Nat)
  /-- a list that a slot owns, looked at -/
  | b (i : Nat)
  /-- a field of a caught error in a slot -/
  | xf (i : Nat) (f : Str)
  /-- a constant of the module -/
  | g (x : Str)
  | op (o : Bop) (a b : LE)
  | neg (a : LE)
  | cmp (o : Cop) (a b : LE)
  | chn (o o' : Cop) (a b c : LE)
  | not (a : LE)
  | and (a b : LE)
  | or (a b : LE)
  | ite (t : LC) (a b : LE)
  | tup (es : LEs)
  | lst (es : LEs)
  /-- a list that goes to the store -/
  | sto (es : LEs)
  | dct (ks : List Key) (es : LEs)
  | sub (a i : LE)
  | slc (a : LE) (lo hi : LO)
  | fn (f : Fn) (e : LE)
  | isi (a : LE) (t : Ty)
  | isiT (a : LE) (ts : List Ty)
  | call (f : Str) (es : LEs)
  | lc (own : List Nat) (tg : LT) (it : LI) (cs : LK) (e : LE)
inductive LEs where
  | nil
  | cons (e : LE) (es : LEs)
inductive LO where
  | non
  | som (e : LE)
/-- a test -/
inductive LC where
  | e (e : LE)
  | cmp (o : Cop) (a b : LE)
  | chn (o o' : Cop) (a b c : LE)
  | and (a b : LC)
  | or (a b : LC)
  | not (a : LC)
inductive LK where
  | non
  | som (c : LC)
/-- what is walked -/
inductive LI where
  | seq (e : LE)
  | rng1 (b : LE)
  | rng2 (a b : LE)
end

def LEs.len : LEs → Nat
  | .nil => 0
  | .cons _ es => es.len + 1
mutual
inductive LS where
  | asg (t : LT) (e : LE)
  /-- names = values, at once -/
  | par (is : List Nat) (es : LEs)
  /-- o[i] = e, o in the store -/
  | setI (o i e : LE)
  | ex (e : LE)
  | ret (e : LE)
  | ite (t : LC) (a b : LSs)
  | loop (t : LT) (it : LI) (body : LSs)
  | whl (t : LC) (body : LSs)
  | brk
  | cnt
  | pss
  | rse (c : Str) (es : LEs)
  /-- one handler: its classes, the slot of its name, its suite -/
  | tri (body : LSs) (cs : List Str) (nm : Option Nat) (suite : LSs)
inductive LSs where
  | nil
  | cons (s : LS) (ss : LSs)
end

/-! ### the evaluator -/
/-- what stands around: constants, errors (fields of one that is made; which class lies under which), calls -/
structure Cn where
  g : Str → Option U
  xm : Str → List U → Option (List (Str × U))
  sub : Str → Str → Option Bool
  has : Str → Bool
abbrev CF := Str → List U → Sto → R U

mutual
def LT.slots : LT → List Nat
  | .nm i => [i]
  | .tp ts => LT.slotss ts
  | .st is j => is ++ [j]
def LT.slotss : List LT → List Nat
  | [] => []
  | t :: ts => LT.slots t ++ LT.slotss ts
end
def assign : LT → U → Slots → Option Slots
  | .nm i, u, σ => some (σ.set i (.val u))
  | .tp ts, .tup us, σ => assigns ts us σ
  | .st is j, .tup us, σ => if is.length ≤ us.length then some ((setAll is us σ).set j (.val (.lst (us.drop is.length)))) else none
  | .st is j, .lst us, σ => if is.length ≤ us.length then some ((setAll is us σ).set j (.val (.lst (us.drop is.length)))) else none
  | _, _, _ => none
where
  assigns : List LT → List U → Slots → Option Slots
    | [], [], σ => some σ
    | t :: ts, u :: us, σ => (assign t u σ).bind fun σ => assigns ts us σ
    | _, _, _ => none
  setAll : List Nat → List U → Slots → Slots
    | i :: is, u :: us, σ => setAll is us (σ.set i (.val u))
    | _, _, σ => σ

def PR.get : PR → U
  | .val u => u
  | .newL us => .lst us
def retP (o : Option PR) (S : Sto) : R U := match o with
  | some p => .ok p.get S
  | none => .bad
def retB (o : Option Bool) (S : Sto) : R U := match o with
  | some b => .ok (.bl b) S
  | none => .bad
def retT (o : Option Bool) (S : Sto) : R Bool := match o with
  | some b => .ok b S
  | none => .bad
def retU (o : Option U) (S : Sto) : R U := match o with
  | some u => .ok u S
  | none => .bad
/-- the turns of a comprehension -/
def evLc (turn : U → Sto → R (Option U)) : List U → List U → Sto → R U
  | [], acc, S => .ok (.lst acc) S
  | u :: us, acc, S => (turn u S).bindN fun o S1 => match o with
    | some w => evLc turn us (acc ++ [w]) S1
    | none => evLc turn us acc S1
def rangeU (a b : Int) : List U := (List.range (b - a).toNat).map fun (k : Nat) => .int (a + (k : Int))

def borOf (σ : Slots) : LE → Option (Option U)
  | .b i => match σ[i]? with
    | some (.own us) => some (some (.lst us))
    | _ => some none
  | _ => none
/-- a value that is only looked at -/
def lookB (o : Option (Option U)) (r : R U) (S : Sto) : R U := match o with
  | some (some u) => .ok u S
  | some none => .bad
  | none => r
mutual
def evE (N : Cn) (cf : CF) (σ : Slots) : LE → Sto → R U
  | .bad, _ => .bad
  | .c u, S => .ok u S
  | .v i, S => match σ[i]? with
    | some (.val u) => .ok u S
    | _ => .bad
  | .b i, S => .bad
  | .xf i f, S => .bad
  | .g x, S => retU (N.g x) S
  | .op o a b, S => (lookB (borOf σ a) (evE N cf σ a S) S).bind fun x S1 => (lookB (borOf σ b) (evE N cf σ b S1) S1).bind fun y S2 => retP (bop o S2 x y) S2
  | .neg a, S => (evE N cf σ a S).bind fun x S1 => match x with
    | .int i => .ok (.int (-i)) S1
    | _ => .bad
  | .cmp o a b, S => (lookB (borOf σ a) (evE N cf σ a S) S).bind fun x S1 => (lookB (borOf σ b) (evE N cf σ b S1) S1).bind fun y S2 => retB (cop o S2 x y) S2
  | .chn o o' a b c, S => (evE N cf σ a S).bind fun x S1 => (evE N cf σ b S1).bind fun y S2 => match cop o S2 x y with
    | some true => (evE N cf σ c S2).bind fun z S3 => retB (cop o' S3 y z) S3
    | some false => .ok (.bl false) S2
    | none => .bad
  | .not a, S => (evE N cf σ a S).bind fun u S1 => match truth S1 u with
    | some k => .ok (.bl (!k)) S1
    | none => .bad
  | .and a b, S => (evE N cf σ a S).bind fun x S1 => match x with
    | .bl true => evE N cf σ b S1
    | .bl false => .ok (.bl false) S1
    | _ => .bad
  | .or a b, S => (evE N cf σ a S).bind fun x S1 => match x with
    | .bl true => .ok (.bl true) S1
    | .bl false => evE N cf σ b S1
    | _ => .bad
  | .ite t a b, S => (evT N cf σ t S).bind fun k S1 => if k = true then evE N cf σ a S1 else evE N cf σ b S1
  | .tup es, S => (evEs N cf σ es S).bind fun us S1 => if us.length ≤ big then .ok (.tup us) S1 else .bad
  | .lst es, S => (evEs N cf σ es S).bind fun us S1 => if us.length ≤ big then .ok (.lst us) S1 else .bad
  | .sto es, S => (evEs N cf σ es S).bind fun us S1 => if us.length ≤ big then .ok (.ref S1.length) (S1 ++ [.lst us]) else .bad
  | .dct ks es, S => (evEs N cf σ es S).bind fun us S1 => if us.length = ks.length ∧ ks.length ≤ 15 ∧ ks.Nodup then .ok (.dct ks us) S1 else .bad
  | .sub a i, S => (lookB (borOf σ a) (evE N cf σ a S) S).bind fun x S1 => (evE N cf σ i S1).bind fun y S2 => retU (item S2 x y) S2
  | .slc a lo hi, S => (lookB (borOf σ a) (evE N cf σ a S) S).bind fun x S1 => (evO N cf σ lo S1).bind fun l S2 => (evO N cf σ hi S2).bind fun h S3 => retP (cut S3 x l h) S3
  | .fn f e, S => (lookB (borOf σ e) (evE N cf σ e S) S).bind fun x S1 => retP (fnc f S1 [x]) S1
  | .isi a t, S => (evE N cf σ a S).bind fun x S1 => retB (tyIs t x) S1
  | .isiT a ts, S => (evE N cf σ a S).bind fun x S1 => if ts ≠ [] ∧ ts.length ≤ 100 then retB (tyAny ts x) S1 else .bad
  | .call f es, S => if N.has f = true then (evEs N cf σ es S).bind fun us S1 => cf f us S1 else .bad
  | .lc own tg it cs e, S => (evI N cf σ it S).bind fun us S1 => if us.length ≤ big then evLc (fun u S2 => match assign tg u (wipeS σ own) with
    | some σ1 => (evC N cf σ1 cs S2).bind fun k S3 => if k = true then (evE N cf σ1 e S3).bind fun w S4 => .ok (some w) S4 else .ok none S3
    | none => .bad) us [] S1 else .bad
def evEs (N : Cn) (cf : CF) (σ : Slots) : LEs → Sto → R (List U)
  | .nil, S => .ok [] S
  | .cons e es, S => (evE N cf σ e S).bind fun u S1 => (evEs N cf σ es S1).bind fun us S2 => .ok (u :: us) S2
def evO (N : Cn) (cf : CF) (σ : Slots) : LO → Sto → R (Option Int)
  | .non, S => .ok none S
  | .som e, S => (evE N cf σ e S).bind fun u S1 => match u with
    | .int i => .ok (some i) S1
    | _ => .bad
/-- a comprehension's test -/
def evC (N : Cn) (cf : CF) (σ : Slots) : LK → Sto → R Bool
  | .non, S => .ok true S
  | .som e, S => evT N cf σ e S
def evI (N : Cn) (cf : CF) (σ : Slots) : LI → Sto → R (List U)
  | .seq e, S => (evE N cf σ e S).bind fun u S1 => match u with
    | .tup us => .ok us S1
    | .lst us => .ok us S1
    | _ => .bad
  | .rng1 b, S => (evE N cf σ b S).bind fun u S1 => match u with
    | .int j => if -100000000000000000 < j ∧ j < 100000 then .ok (rangeU 0 j) S1 else .bad
    | _ => .bad
  | .rng2 a b, S => (evE N cf σ a S).bind fun u S1 => (evE N cf σ b S1).bind fun w S2 => match u, w with
    | .int i, .int j => if -100000000000000000 < i ∧ i < 100000000000000000 ∧ -100000000000000000 < j ∧ j < i + 100000 then .ok (rangeU i j) S2 else .bad
    | _, _ => .bad
/-- a test -/
def evT (N : Cn) (cf : CF) (σ : Slots) : LC → Sto → R Bool
  | .and a b, S => (evT N cf σ a S).bind fun k S1 => if k = true then evT N cf σ b S1 else .ok false S1
  | .or a b, S => (evT N cf σ a S).bind fun k S1 => if k = true then .ok true S1 else evT N cf σ b S1
  | .not a, S => (evT N cf σ a S).bind fun k S1 => .ok (!k) S1
  | .cmp o a b, S => (lookB (borOf σ a) (evE N cf σ a S) S).bind fun x S1 => (lookB (borOf σ b) (evE N cf σ b S1) S1).bind fun y S2 => retT (cop o S2 x y) S2
  | .chn o o' a b c, S => (evE N cf σ a S).bind fun x S1 => (evE N cf σ b S1).bind fun y S2 => match cop o S2 x y with
    | some true => (evE N cf σ c S2).bind fun z S3 => retT (cop o' S3 y z) S3
    | some false => .ok false S2
    | none => .bad
  | .e e, S => (evE N cf σ e S).bind fun u S1 => match truth S1 u with
    | some k => .ok k S1
    | none => .bad
end

/-! ### statements -/
inductive RS where
  | nx (σ : Slots) (S : Sto)
  | rt (u : U) (S : Sto)
  | bk (σ : Slots) (S : Sto)
  | ct (σ : Slots) (S : Sto)
  | exc (x : Exc) (σ : Slots) (S : Sto)
  | bad
/-- an expression in a statement -/
def R.then {α : Type} (r : R α) (σ : Slots) (k : α → Sto → RS) : RS := match r with
  | .ok a S => k a S
  | .exc x S => .exc x σ S
  | .bad => .bad
@[simp] theorem R.then_ok {α : Type} (a : α) (S : Sto) (σ : Slots) (k : α → Sto → RS) : (R.ok a S).then σ k = k a S := rfl
@[simp] theorem R.then_exc {α : Type} (x : Exc) (S : Sto) (σ : Slots) (k : α → Sto → RS) : (R.exc x S : R α).then σ k = .exc x σ S := rfl
@[simp] theorem R.then_bad {α : Type} (σ : Slots) (k : α → Sto → RS) : (R.bad : R α).then σ k = .bad := rfl
def RS.seq (r : RS) (k : Slots → Sto → RS) : RS := match r with
  | .nx σ S => k σ S
  | r => r
@[simp] theorem RS.seq_nx (σ : Slots) (S : Sto) (k : Slots → Sto → RS) : (RS.nx σ S).seq k = k σ S := rfl
@[simp] theorem RS.seq_rt (u : U) (S : Sto) (k : Slots → Sto → RS) : (RS.rt u S).seq k = .rt u S := rfl
@[simp] theorem RS.seq_exc (x : Exc) (σ : Slots) (S : Sto) (k : Slots → Sto → RS) : (RS.exc x σ S).seq k = .exc x σ S := rfl
@[simp] theorem RS.seq_bad (k : Slots → Sto → RS) : (RS.bad).seq k = .bad := rfl
@[simp] theorem RS.seq_bk (σ : Slots) (S : Sto) (k : Slots → Sto → RS) : (RS.bk σ S).seq k = .bk σ S := rfl
@[simp] theorem RS.seq_ct (σ : Slots) (S : Sto) (k : Slots → Sto → RS) : (RS.ct σ S).seq k = .ct σ S := rfl
def orBad (o : Option Slots) (S : Sto) : RS := match o with
  | some σ => .nx σ S
  | none => .bad
def evFor (turn : U → Slots → Sto → RS) : List U → Slots → Sto → RS
  | [], σ, S => .nx σ S
  | u :: us, σ, S => match turn u σ S with
    | .nx σ1 S1 => evFor turn us σ1 S1
    | .ct σ1 S1 => evFor turn us σ1 S1
    | .bk σ1 S1 => .nx σ1 S1
    | r => r
def evWhl (test : Slots → Sto → R Bool) (body : Slots → Sto → RS) : Nat → Slots → Sto → RS
  | 0, _, _ => .bad
  | n + 1, σ, S => (test σ S).then σ fun k S1 => if k = true then (match body σ S1 with
    | .nx σ1 S2 => evWhl test body n σ1 S2
    | .ct σ1 S2 => evWhl test body n σ1 S2
    | .bk σ1 S2 => .nx σ1 S2
    | r => r) else .nx σ S1
def whileFuel : Nat := 1000000
def setVals : List Nat → List U → Slots → Option Slots
  | [], [], σ => some σ
  | i :: is, u :: us, σ => setVals is us (σ.set i (.val u))
  | _, _, _ => none
/-- o[i] = u in the store -/
def stoSet (S : Sto) (o i u : U) : Option Sto := match o, i with
  | .ref n, .int j => match S[n]? with
    | some (.lst us) => (ixN us.length j).map fun k => S.set n (.lst (us.set k u))
    | none => none
  | _, _ => none
def subAny (sub : Str → Str → Option Bool) (x : Str) : List Str → Option Bool
  | [] => some false
  | c :: cs => (sub x c).bind fun b => if b = true then some true else subAny sub x cs

mutual
def evS (N : Cn) (cf : CF) : LS → Slots → Sto → RS
  | .asg t e, σ, S => (evE N cf σ e S).then σ fun u S1 => orBad (assign t u σ) S1
  | .par is es, σ, S => (evEs N cf σ es S).then σ fun us S1 => orBad (setVals is us σ) S1
  | .setI o i e, σ, S => (evE N cf σ e S).then σ fun u S1 => (evE N cf σ o S1).then σ fun x S2 => (evE N cf σ i S2).then σ fun y S3 => match stoSet S3 x y u with
    | some S4 => .nx σ S4
    | none => .bad
  | .ex e, σ, S => (evE N cf σ e S).then σ fun _ S1 => .nx σ S1
  | .ret e, σ, S => (evE N cf σ e S).then σ fun u S1 => .rt u S1
  | .ite t a b, σ, S => (evT N cf σ t S).then σ fun k S1 => if k = true then evSs N cf a σ S1 else evSs N cf b σ S1
  | .loop t it body, σ, S => (evI N cf σ it S).then σ fun us S1 => evFor (fun u σ S => match assign t u σ with
    | some σ1 => evSs N cf body σ1 S
    | none => .bad) us σ S1
  | .whl t body, σ, S => evWhl (fun σ S => evT N cf σ t S) (fun σ S => evSs N cf body σ S) whileFuel σ S
  | .brk, σ, S => .bk σ S
  | .cnt, σ, S => .ct σ S
  | .pss, σ, S => .nx σ S
  | .rse c es, σ, S => (evEs N cf σ es S).then σ fun us S1 => match N.xm c us with
    | some fs => .exc ⟨c, fs⟩ σ S1
    | none => .bad
  | .tri body cs nm suite, σ, S => match evSs N cf body σ S with
    | .exc x σ1 S1 => (match subAny N.sub x.cls cs, nm with
      | some true, none => evSs N cf suite σ1 S1
      | some false, _ => .exc x σ1 S1
      | _, _ => .bad)
    | r => r
def evSs (N : Cn) (cf : CF) : LSs → Slots → Sto → RS
  | .nil, σ, S => .nx σ S
  | .cons s ss, σ, S => (evS N cf s σ S).seq fun σ1 S1 => evSs N cf ss σ1 S1
end

/-! ### functions -/
structure LFun where
  params : List Str
  names : List Str
  body : LSs
def startU (n : Nat) (us : List U) : Slots := us.map SL.val ++ List.replicate (n - us.length) .no
def endU (r : RS) : R U := match r with
  | .nx _ S => .ok .non S
  | .rt u S => .ok u S
  | .exc x _ S => .exc x S
  | _ => .bad
/-- a call, at most n calls deep -/
def callN (N : Cn) (T : Str → Option LFun) : Nat → CF
  | 0, _, _, _ => .bad
  | n + 1, f, us, S => match T f with
    | some F => if us.length = F.params.length then endU (evSs N (callN N T n) F.body (startU F.names.length us) S) else .bad
    | none => .bad
end Far

set_option Elab.async false
set_option linter.all false
set_option maxRecDepth 100000
set_option maxHeartbeats 4000000
/-! What the evaluator's values and states stand for in HandS's heaps. -/
namespace Far
open PySem PySem.Spec PyProof.Rows L2

/-- the entries of a written dict whose keys are texts -/
inductive KEnt : List DictEntry → List Key → List V → Prop
  | nil : KEnt [] [] []
  | cons {e : DictEntry} {x : Str} {t : Tok} {v : V} {es : List DictEntry} {ks : List Key} {vs : List V} : e.key = .str x t → RelV v e.val → KEnt es ks vs → KEnt (e :: es) (.inr x :: ks) (v :: vs)
def KDc (K : PySem.W.Frag) (w : World) (a : Addr) (ks : List Key) (vs : List V) : Prop := ∃ es n, L2.KDict K w a es n ∧ KEnt es.toList ks vs

section
variable {K : PySem.W.Frag} {w : World}

/-! u stands at v: F, the heap of what no longer changes; rho, where the store's things lie -/
mutual
inductive CV (K : PySem.W.Frag) (w : World) (F : Hp) (rho : List Addr) : U → V → Prop
  | non : CV K w F rho .non .non
  | bl (b : Bool) : CV K w F rho (.bl b) (.bl b)
  | int (i : Int) : CV K w F rho (.int i) (.int i)
  | str (s : Str) : CV K w F rho (.str s) (.str s)
  | tup {a : Addr} {us : List U} {vs : List V} : SqT K F a vs → CVs K w F rho us vs → CV K w F rho (.tup us) (.ref a)
  | lst {a : Addr} {us : List U} {vs : List V} : F a = some (.lst vs) → CVs K w F rho us vs → CV K w F rho (.lst us) (.ref a)
  | fz {a : Addr} {us : List U} {vs : List V} : SqL K F a vs → CVs K w F rho us vs → CV K w F rho (.fz us) (.ref a)
  | dct {a : Addr} {ks : List Key} {us : List U} {vs : List V} : F a = some (.dK (ks.zip vs)) → ks.length = vs.length → CVs K w F rho us vs → CV K w F rho (.dct ks us) (.ref a)
  | kdc {a : Addr} {ks : List Key} {us : List U} {vs : List V} : KDc K w a ks vs → CVs K w F rho us vs → CV K w F rho (.kdt ks us) (.ref a)
  | ref {n : Nat} {a : Addr} : rho[n]? = some a → CV K w F rho (.ref n) (.ref a)
inductive CVs (K : PySem.W.Frag) (w : World) (F : Hp) (rho : List Addr) : List U → List V → Prop
  | nil : CVs K w F rho [] []
  | cons {u : U} {v : V} {us : List U} {vs : List V} : CV K w F rho u v → CVs K w F rho us vs → CVs K w F rho (u :: us) (v :: vs)
end

theorem same_rd {H H' : Hp} (e : Same H H') {a : Addr} {u : HO} (h : Rd H a u) : Rd H' a u := by
  rcases h with h | ⟨o, h⟩
  · exact .inl (e _ _ h)
  · exact .inr ⟨o, e _ _ h⟩
theorem same_l {H H' : Hp} (e : Same H H') {a : Addr} {xs : List V} (h : SqL K H a xs) : SqL K H' a xs := by
  rcases h with h | h
  · exact .inl (same_rd e h)
  · exact .inr h
theorem same_t {H H' : Hp} (e : Same H H') {a : Addr} {xs : List V} (h : SqT K H a xs) : SqT K H' a xs := by
  rcases h with h | h
  · exact .inl (same_rd e h)
  · exact .inr h

def Pre (rho rho' : List Addr) : Prop := ∃ m, rho' = rho ++ m
theorem Pre.refl (rho : List Addr) : Pre rho rho := ⟨[], by simp⟩
theorem Pre.trans {a b c : List Addr} (h : Pre a b) (h' : Pre b c) : Pre a c := by
  obtain ⟨m, rfl⟩ := h
  obtain ⟨m', rfl⟩ := h'
  exact ⟨m ++ m', by simp⟩
theorem Pre.get {a b : List Addr} (h : Pre a b) {n : Nat} {x : Addr} (e : a[n]? = some x) : b[n]? = some x := by
  obtain ⟨m, rfl⟩ := h
  have hlt : n < a.length := (List.getElem?_eq_some_iff.mp e).1
  rw [List.getElem?_append_left hlt]
  exact e
theorem Pre.mem {a b : List Addr} (h : Pre a b) {x : Addr} (e : x ∈ a) : x ∈ b := by
  obtain ⟨m, rfl⟩ := h
  exact List.mem_append_left _ e

mutual
theorem CV.mono {F F' : Hp} {rho rho' : List Addr} (e : Same F F') (p : Pre rho rho') : ∀ {u : U} {v : V}, CV K w F rho u v → CV K w F' rho' u v
  | _, _, .non => .non
  | _, _, .bl b => .bl b
  | _, _, .int i => .int i
  | _, _, .str s => .str s
  | _, _, .tup h hs => .tup (same_t e h) (CVs.mono e p hs)
  | _, _, .lst h hs => .lst (e _ _ h) (CVs.mono e p hs)
  | _, _, .fz h hs => .fz (same_l e h) (CVs.mono e p hs)
  | _, _, .dct h l hs => .dct (e _ _ h) l (CVs.mono e p hs)
  | _, _, .kdc h hs => .kdc h (CVs.mono e p hs)
  | _, _, .ref h => .ref (p.get h)
theorem CVs.mono {F F' : Hp} {rho rho' : List Addr} (e : Same F F') (p : Pre rho rho') : ∀ {us : List U} {vs : List V}, CVs K w F rho us vs → CVs K w F' rho' us vs
  | _, _, .nil => .nil
  | _, _, .cons h hs => .cons (CV.mono e p h) (CVs.mono e p hs)
end
theorem CVs.length {F : Hp} {rho : List Addr} : ∀ {us : List U} {vs : List V}, CVs K w F rho us vs → us.length = vs.length
  | _, _, .nil => rfl
  | _, _, .cons _ hs => by rw [List.length_cons, List.length_cons, CVs.length hs]
theorem CVs.get {F : Hp} {rho : List Addr} : ∀ {us : List U} {vs : List V} {i : Nat} {u : U}, CVs K w F rho us vs → us[i]? = some u → ∃ v, vs[i]? = some v ∧ CV K w F rho u v
  | _, _, _, _, .nil, e => by simp at e
  | _, _, 0, _, .cons h _, e => by simp at e; subst e; exact ⟨_, rfl, h⟩
  | _, _, i + 1, u, .cons _ hs, e => by
    obtain ⟨v, h1, h2⟩ := CVs.get (i := i) (u := u) hs (by simpa using e)
    exact ⟨v, by simpa using h1, h2⟩
theorem CVs.append {F : Hp} {rho : List Addr} : ∀ {us ws : List U} {vs xs : List V}, CVs K w F rho us vs → CVs K w F rho ws xs → CVs K w F rho (us ++ ws) (vs ++ xs)
  | _, _, _, _, .nil, s => s
  | _, _, _, _, .cons h hs, s => .cons h (CVs.append hs s)
theorem CVs.drop {F : Hp} {rho : List Addr} : ∀ {us : List U} {vs : List V} (n : Nat), CVs K w F rho us vs → CVs K w F rho (us.drop n) (vs.drop n)
  | _, _, 0, h => h
  | _, _, _ + 1, .nil => .nil
  | _, _, n + 1, .cons _ hs => CVs.drop n hs
theorem CVs.take {F : Hp} {rho : List Addr} : ∀ {us : List U} {vs : List V} (n : Nat), CVs K w F rho us vs → CVs K w F rho (us.take n) (vs.take n)
  | _, _, 0, _ => .nil
  | _, _, _ + 1, .nil => .nil
  | _, _, n + 1, .cons h hs => .cons h (CVs.take n hs)
theorem CVs.set {F : Hp} {rho : List Addr} {u : U} {v : V} (h : CV K w F rho u v) : ∀ {us : List U} {vs : List V} (n : Nat), CVs K w F rho us vs → CVs K w F rho (us.set n u) (vs.set n v)
  | _, _, _, .nil => .nil
  | _, _, 0, .cons _ hs => .cons h hs
  | _, _, n + 1, .cons q hs => .cons q (CVs.set h n hs)
theorem CVs.cut {F : Hp} {rho : List Addr} {us : List U} {vs : List V} (h : CVs K w F rho us vs) (lo hi : Option Int) : CVs K w F rho (cutL us lo hi) (cutV vs lo hi) := by
  have e := h.length
  unfold cutL cutV
  rw [e]
  exact CVs.take _ (CVs.drop _ h)

/-- what stands in the store -/
def SOk (K : PySem.W.Frag) (w : World) (F : Hp) (rho : List Addr) : SO → HO → Prop
  | .lst us, o => ∃ vs, o = .lst vs ∧ CVs K w F rho us vs
theorem SOk.mono {F F' : Hp} {rho rho' : List Addr} (e : Same F F') (p : Pre rho rho') {s : SO} {o : HO} (h : SOk K w F rho s o) : SOk K w F' rho' s o := by
  cases s with
  | lst us =>
    obtain ⟨vs, rfl, q⟩ := h
    exact ⟨vs, rfl, q.mono e p⟩

/-- the state: what is frozen lies in the heap, so does the store, apart from it -/
structure St (K : PySem.W.Frag) (w : World) (F H : Hp) (rho : List Addr) (S : Sto) : Prop where
  sub : Same F H
  len : rho.length = S.length
  nd : rho.Nodup
  sto : ∀ (n : Nat) (a : Addr) (o : SO), rho[n]? = some a → S[n]? = some o → F a = none ∧ ∃ ho, H a = some ho ∧ SOk K w F rho o ho
theorem St.at {F H : Hp} {rho : List Addr} {S : Sto} (h : St K w F H rho S) {n : Nat} {a : Addr} (e : rho[n]? = some a) : ∃ o ho, S[n]? = some o ∧ F a = none ∧ H a = some ho ∧ SOk K w F rho o ho := by
  have hlt : n < S.length := by
    rw [← h.len]
    exact (List.getElem?_eq_some_iff.mp e).1
  obtain ⟨f, ho, h1, h2⟩ := h.sto n a S[n] e (List.getElem?_eq_getElem hlt)
  exact ⟨S[n], ho, List.getElem?_eq_getElem hlt, f, h1, h2⟩
theorem St.mem {F H : Hp} {rho : List Addr} {S : Sto} (h : St K w F H rho S) {a : Addr} (e : a ∈ rho) : F a = none ∧ ∃ ho, H a = some ho := by
  obtain ⟨n, hn⟩ := List.mem_iff_getElem?.mp e
  obtain ⟨o, ho, _, f, q, _⟩ := h.at hn
  exact ⟨f, ho, q⟩

/-- from one state to a later one, as a pure step may bring it -/
structure Grow (F H : Hp) (rho : List Addr) (F' H' : Hp) (rho' : List Addr) : Prop where
  fex : Same F F'
  fnew : ∀ a o, F' a = some o → F a = some o ∨ H a = none
  rex : Pre rho rho'
  rnew : ∀ a ∈ rho', a ∈ rho ∨ H a = none
  keep : ∀ a o, H a = some o → a ∉ rho → H' a = some o
  dom : ∀ a, H' a = none → H a = none
theorem Grow.refl (F H : Hp) (rho : List Addr) : Grow F H rho F H rho := ⟨Same.refl _, fun _ _ h => .inl h, Pre.refl _, fun _ h => .inl h, fun _ _ h _ => h, fun _ h => h⟩
theorem Grow.trans {F H F1 H1 F2 H2 : Hp} {rho rho1 rho2 : List Addr} (a : Grow F H rho F1 H1 rho1) (b : Grow F1 H1 rho1 F2 H2 rho2) : Grow F H rho F2 H2 rho2 where
  fex := a.fex.trans b.fex
  fnew := fun x o h => by
    rcases b.fnew x o h with h | h
    · exact a.fnew x o h
    · exact .inr (a.dom x h)
  rex := a.rex.trans b.rex
  rnew := fun x h => by
    rcases b.rnew x h with h | h
    · exact a.rnew x h
    · exact .inr (a.dom x h)
  keep := fun x o h n => b.keep x o (a.keep x o h n) fun z => by
    rcases a.rnew x z with z | z
    · exact n z
    · rw [h] at z; cases z
  dom := fun x h => a.dom x (b.dom x h)

theorem same_free {F H : Hp} (s : Same F H) {p : Addr} (h : H p = none) : F p = none := s.free h
theorem same_upd {F F' : Hp} (h : F p = none) (e : Same F F') {o : HO} : Same F (upd F' p o) := fun a u q => by
  rw [upd_ne (ne_of_none q h)]
  exact e a u q
/-- a new thing that is frozen at once -/
theorem Grow.new {F H : Hp} {rho : List Addr} {p : Addr} {o : HO} (s : Same F H) (h : H p = none) : Grow F H rho (upd F p o) (upd H p o) rho where
  fex := same_upd (s.free h) (Same.refl F)
  fnew := fun a u e => by
    by_cases z : a = p
    · subst z; exact .inr h
    · rw [upd_ne z] at e; exact .inl e
  rex := Pre.refl _
  rnew := fun _ h => .inl h
  keep := fun a u e _ => by rw [upd_ne (ne_of_none e h)]; exact e
  dom := fun a e => by
    by_cases z : a = p
    · subst z; exact h
    · rw [upd_ne z] at e; exact e
/-- a new thing that is not frozen -/
theorem Grow.lay {F H : Hp} {rho : List Addr} {p : Addr} {o : HO} (h : H p = none) : Grow F H rho F (upd H p o) rho where
  fex := Same.refl F
  fnew := fun a u e => .inl e
  rex := Pre.refl _
  rnew := fun _ h => .inl h
  keep := fun a u e _ => by rw [upd_ne (ne_of_none e h)]; exact e
  dom := fun a e => by
    by_cases z : a = p
    · subst z; exact h
    · rw [upd_ne z] at e; exact e
/-- heaps that hold more, the store as it was -/
theorem St.more {F H F' H' : Hp} {rho : List Addr} {S : Sto} (h : St K w F H rho S) (g : Grow F H rho F' H' rho) (s : Same F' H') (k : Same H H') : St K w F' H' rho S where
  sub := s
  len := h.len
  nd := h.nd
  sto := fun n a o e1 e2 => by
    obtain ⟨f, ho, q, r⟩ := h.sto n a o e1 e2
    refine ⟨?_, ho, k _ _ q, r.mono g.fex (Pre.refl _)⟩
    cases z : F' a with
    | none => rfl
    | some x =>
      rcases g.fnew a x z with y | y
      · rw [f] at y; cases y
      · rw [q] at y; cases y

/-- a value that is only looked at: it stands, or a slot owns it -/
inductive CVb (K : PySem.W.Frag) (w : World) (F H : Hp) (rho : List Addr) : U → V → Prop
  | of {u : U} {v : V} : CV K w F rho u v → CVb K w F H rho u v
  | bor {p : Addr} {us : List U} {vs : List V} : F p = none → p ∉ rho → H p = some (.lst vs) → CVs K w F rho us vs → CVb K w F H rho (.lst us) (.ref p)
theorem CVb.grow {F H F' H' : Hp} {rho rho' : List Addr} (g : Grow F H rho F' H' rho') {u : U} {v : V} (h : CVb K w F H rho u v) : CVb K w F' H' rho' u v := by
  cases h with
  | of h => exact .of (h.mono g.fex g.rex)
  | bor f n q hs =>
    refine .bor ?_ (fun z => ?_) (g.keep _ _ q n) (hs.mono g.fex g.rex)
    · rename_i p us vs
      cases z : F' p with
      | none => rfl
      | some x =>
        rcases g.fnew p x z with y | y
        · rw [f] at y; cases y
        · rw [q] at y; cases y
    · rcases g.rnew _ z with z | z
      · exact n z
      · rw [q] at z; cases z
theorem CVb.items {F H : Hp} {rho : List Addr} {S : Sto} {u : U} {v : V} {us : List U} (st : St K w F H rho S) (h : CVb K w F H rho u v) (e : U.items S u = some us) : ∃ a vs, v = .ref a ∧ SqL K H a vs ∧ CVs K w F rho us vs := by
  cases h with
  | of h =>
    cases h with
    | lst q hs =>
      simp only [U.items, Option.some.injEq] at e
      subst e
      exact ⟨_, _, rfl, SqL.of (st.sub _ _ q), hs⟩
    | fz q hs =>
      simp only [U.items, Option.some.injEq] at e
      subst e
      exact ⟨_, _, rfl, same_l st.sub q, hs⟩
    | ref q =>
      rename_i n a
      obtain ⟨o, ho, e1, f, e2, ok⟩ := st.at q
      cases o with
      | lst ws =>
        simp only [U.items, e1, Option.some.injEq] at e
        subst e
        obtain ⟨vs, rfl, hs⟩ := ok
        exact ⟨_, _, rfl, SqL.of e2, hs⟩
    | _ => simp [U.items] at e
  | bor f n q hs =>
    simp only [U.items, Option.some.injEq] at e
    subst e
    exact ⟨_, _, rfl, SqL.of q, hs⟩
theorem CVb.lst {F H : Hp} {rho : List Addr} {S : Sto} {v : V} {us : List U} (st : St K w F H rho S) (h : CVb K w F H rho (.lst us) v) : ∃ a vs, v = .ref a ∧ H a = some (.lst vs) ∧ CVs K w F rho us vs := by
  cases h with
  | of h =>
    cases h with
    | lst q hs => exact ⟨_, _, rfl, st.sub _ _ q, hs⟩
  | bor f n q hs => exact ⟨_, _, rfl, q, hs⟩
theorem CVb.tup {F H : Hp} {rho : List Addr} {S : Sto} {v : V} {us : List U} (st : St K w F H rho S) (h : CVb K w F H rho (.tup us) v) : ∃ a vs, v = .ref a ∧ SqT K H a vs ∧ CVs K w F rho us vs := by
  cases h with
  | of h =>
    cases h with
    | tup q hs => exact ⟨_, _, rfl, same_t st.sub q, hs⟩
theorem CVb.int {F H : Hp} {rho : List Addr} {v : V} {i : Int} (h : CVb K w F H rho (.int i) v) : v = .int i := by
  cases h with
  | of h => cases h; rfl

/-- what is wanted of a primitive's end -/
def PP (K : PySem.W.Frag) (w : World) (F H : Hp) (rho : List Addr) (p : PR) (Q : VK) : Prop := match p with
  | .val u => ∀ v F' H', Grow F H rho F' H' rho → Same H H' → Same F' H' → CV K w F' rho u v → Q v H'
  | .newL us => ∀ p vs, H p = none → CVs K w F rho us vs → Q (.ref p) (upd H p (.lst vs))
theorem PP.here {F H : Hp} {rho : List Addr} {S : Sto} {u : U} {v : V} {Q : VK} (st : St K w F H rho S) (h : PP K w F H rho (.val u) Q) (c : CV K w F rho u v) : Q v H := h v F H (Grow.refl _ _ _) (Same.refl _) st.sub c
theorem PP.newT {F H : Hp} {rho : List Addr} {S : Sto} {us : List U} {vs : List V} {Q : VK} (st : St K w F H rho S) (h : PP K w F H rho (.val (.tup us)) Q) (c : CVs K w F rho us vs) {p : Addr} (n : H p = none) : Q (.ref p) (upd H p (.tup vs)) := by
  have nf := st.sub.free n
  refine h _ (upd F p (.tup vs)) _ (Grow.new st.sub n) (same_upd n (Same.refl _)) (fun a o e => ?_) (.tup (.inl (.inl upd_same)) (c.mono (same_upd nf (Same.refl _)) (Pre.refl _)))
  by_cases z : a = p
  · subst z; rw [upd_same] at e ⊢; exact e
  · rw [upd_ne z] at e ⊢; exact st.sub _ _ e
/-- a new list is frozen at once -/
theorem PP.get {F H : Hp} {rho : List Addr} {S : Sto} {p : PR} {Q : VK} (st : St K w F H rho S) (h : PP K w F H rho (.val p.get) Q) : PP K w F H rho p Q := by
  cases p with
  | val u => exact h
  | newL us =>
    intro p vs n c
    have nf := st.sub.free n
    refine h _ (upd F p (.lst vs)) _ (Grow.new st.sub n) (same_upd n (Same.refl _)) (fun a o e => ?_) (.lst upd_same (c.mono (same_upd nf (Same.refl _)) (Pre.refl _)))
    by_cases z : a = p
    · subst z; rw [upd_same] at e ⊢; exact e
    · rw [upd_ne z] at e ⊢; exact st.sub _ _ e
end
end Far

set_option Elab.async false
set_option linter.all false
set_option maxRecDepth 100000
set_option maxHeartbeats 4000000
/-! The primitive operations keep what the evaluator says of them. -/
namespace Far
open PySem PySem.Spec PyProof.Rows L2

theorem big_line {n : Nat} (h : n ≤ big) : n ≤ sizeLine := Nat.le_trans h (by decide)

def bopA : Bop → Operator
  | .add => .Add
  | .sub => .Sub
  | .mul => .Mult
  | .fdiv => .FloorDiv
  | .mod => .Mod
  | .pow => .Pow
def rBop (K : PySem.W.Frag) (w : World) (o : Bop) : R2 := fun x y H Q => ∃ F rho S a b p, St K w F H rho S ∧ CVb K w F H rho a x ∧ CVb K w F H rho b y ∧ bop o S a b = some p ∧ PP K w F H rho p Q

section
variable {X : Cx}
theorem natAbs64 {i : Int} (h : i.natAbs < 18446744073709551616) : -(2 ^ 64) < i ∧ i < 2 ^ 64 := by
  have e : (2 : Int) ^ 64 = 18446744073709551616 := by decide
  rw [e]
  omega
theorem opr_bop (o : Bop) : OpR X (binaryOp (bopA o)) (rBop X.K X.w o) := by
  intro pins s σ H x y v u Q I rx ry h
  obtain ⟨F, rho, S, a, b, p, st, ca, cb, e, q⟩ := h
  unfold bop at e
  split at e
  · obtain rfl := ca.int; obtain rfl := cb.int
    cases e
    exact op_add pins s σ H _ _ v u Q I rx ry ⟨_, _, rfl, rfl, q.here st (.int _)⟩
  · obtain rfl := ca.int; obtain rfl := cb.int
    cases e
    exact op_sub pins s σ H _ _ v u Q I rx ry ⟨_, _, rfl, rfl, q.here st (.int _)⟩
  · obtain rfl := ca.int; obtain rfl := cb.int
    split at e
    · rename_i h
      cases e
      exact op_mul pins s σ H _ _ v u Q I rx ry ⟨_, _, rfl, rfl, h.imp natAbs64 natAbs64, q.here st (.int _)⟩
    · cases e
  · obtain rfl := ca.int; obtain rfl := cb.int
    split at e
    · rename_i i j h
      cases e
      refine op_fdivW pins s σ H _ _ v u Q I rx ry ⟨_, _, rfl, rfl, ⟨h.1, ?_⟩, q.here st (.int _)⟩
      have h2 : j.natAbs < 2 ^ 64 := by
        have e : (2 : Nat) ^ 64 = 18446744073709551616 := by decide
        rw [e]; omega
      have h3 := PySem.Flt.log2_lt_of (by decide : 0 < 64) h2
      omega
    · cases e
  · obtain rfl := ca.int; obtain rfl := cb.int
    split at e
    · rename_i h
      cases e
      exact op_mod pins s σ H _ _ v u Q I rx ry ⟨_, _, rfl, rfl, h, q.here st (.int _)⟩
    · cases e
  · obtain rfl := ca.int; obtain rfl := cb.int
    split at e
    · rename_i h
      cases e
      refine op_pow pins s σ H _ _ v u Q I rx ry ⟨_, _, rfl, rfl, ⟨h.1, by omega, ?_⟩, q.here st (.int _)⟩
      have e : (2 : Nat) ^ 64 = 18446744073709551616 := by decide
      rw [e]; exact h.2.2
    · cases e
  · obtain ⟨a1, vs1, rfl, h1, c1⟩ := ca.lst st
    obtain ⟨a2, vs2, rfl, h2, c2⟩ := cb.lst st
    split at e
    · rename_i h
      cases e
      refine op_cat pins s σ H _ _ v u Q I rx ry ⟨_, _, _, _, rfl, rfl, h1, h2, ?_, fun p n => q p _ n (c1.append c2)⟩
      rw [← c1.length, ← c2.length]
      exact big_line h
    · cases e
  · obtain ⟨a1, vs1, rfl, h1, c1⟩ := ca.tup st
    obtain ⟨a2, vs2, rfl, h2, c2⟩ := cb.tup st
    split at e
    · rename_i us ws h
      cases e
      refine op_catA pins s σ H _ _ v u Q I rx ry ⟨_, _, _, _, rfl, rfl, h1, h2, ?_, fun z => ?_, fun _ z => ?_, fun _ _ p n => q.newT st (c1.append c2) n⟩
      · rw [← c1.length, ← c2.length]
        exact big_line h
      · subst z
        cases c1
        cases cb with
        | of cb => exact q.here st cb
      · subst z
        cases c2
        cases ca with
        | of ca =>
          rw [List.append_nil] at q
          exact q.here st ca
    · cases e
  · cases e

/-! ### comparisons -/
mutual
theorem CV.dp {K : PySem.W.Frag} {w : World} {F H : Hp} {rho : List Addr} (s : Same F H) : ∀ {u : U} {v : V} {d : PyData}, CV K w F rho u v → U.data u = some d → Dp K H v d
  | _, _, _, .non, e => by simp only [U.data, Option.some.injEq] at e; subst e; exact .non
  | _, _, _, .bl b, e => by simp only [U.data, Option.some.injEq] at e; subst e; exact .bl b
  | _, _, _, .int i, e => by simp only [U.data, Option.some.injEq] at e; subst e; exact .int i
  | _, _, _, .str x, e => by simp only [U.data, Option.some.injEq] at e; subst e; exact .str x
  | _, _, _, .tup h hs, e => by
    simp only [U.data, Option.map_eq_some_iff] at e
    obtain ⟨ds, e1, rfl⟩ := e
    exact .tup (same_t s h) (CVs.dp s hs e1)
  | _, _, _, .lst h hs, e => by
    simp only [U.data, Option.map_eq_some_iff] at e
    obtain ⟨ds, e1, rfl⟩ := e
    exact .lst (SqL.of (s _ _ h)) (CVs.dp s hs e1)
  | _, _, _, .fz h hs, e => by simp [U.data] at e
  | _, _, _, .dct h l hs, e => by simp [U.data] at e
  | _, _, _, .kdc h hs, e => by simp [U.data] at e
  | _, _, _, .ref h, e => by simp [U.data] at e
theorem CVs.dp {K : PySem.W.Frag} {w : World} {F H : Hp} {rho : List Addr} (s : Same F H) : ∀ {us : List U} {vs : List V} {ds : List PyData}, CVs K w F rho us vs → U.datas us = some ds → DpAll K H vs ds
  | _, _, _, .nil, e => by simp only [U.datas, Option.some.injEq] at e; subst e; exact .nil
  | _, _, _, .cons h hs, e => by
    simp only [U.datas, Option.bind_eq_some_iff, Option.map_eq_some_iff] at e
    obtain ⟨d, e1, ds, e2, rfl⟩ := e
    exact .cons (CV.dp s h e1) (CVs.dp s hs e2)
end
theorem CVb.dp {K : PySem.W.Frag} {w : World} {F H : Hp} {rho : List Addr} (s : Same F H) {u : U} {v : V} {d : PyData} (h : CVb K w F H rho u v) (e : U.data u = some d) : Dp K H v d := by
  cases h with
  | of h => exact h.dp s e
  | bor f n q hs =>
    simp only [U.data, Option.map_eq_some_iff] at e
    obtain ⟨ds, e1, rfl⟩ := e
    exact .lst (SqL.of q) (CVs.dp s hs e1)
theorem flatV_of {u : U} {x : V} {K : PySem.W.Frag} {w : World} {F H : Hp} {rho : List Addr} {v : V} (h : CVb K w F H rho u v) (e : flatV? u = some x) : v = x ∧ flatV x = true := by
  cases h with
  | of h => cases h <;> simp [flatV?] at e <;> subst e <;> exact ⟨rfl, rfl⟩
  | bor => simp [flatV?] at e
theorem flats_of {K : PySem.W.Frag} {w : World} {F : Hp} {rho : List Addr} : ∀ {us : List U} {vs xs : List V}, CVs K w F rho us vs → us.mapM flatV? = some xs → vs = xs ∧ xs.all flatV = true
  | _, _, xs, .nil, e => by
    simp at e
    subst e
    exact ⟨rfl, rfl⟩
  | _, _, xs, .cons h hs, e => by
    rw [List.mapM_cons] at e
    simp only [Option.bind_eq_bind, Option.bind_eq_some_iff, Option.pure_def, Option.some.injEq] at e
    obtain ⟨y, e1, ys, e2, rfl⟩ := e
    obtain ⟨rfl, f1⟩ := flatV_of (H := F) (.of h) e1
    obtain ⟨rfl, f2⟩ := flats_of hs e2
    exact ⟨rfl, by rw [List.all_cons, f1, f2]; rfl⟩
def copA : Cop → CmpOp
  | .eq => .Eq
  | .ne => .NotEq
  | .lt => .Lt
  | .le => .LtE
  | .gt => .Gt
  | .ge => .GtE
  | .isin => .In
  | .notin => .NotIn
  | .isN => .Is
  | .notN => .IsNot
def rCop (K : PySem.W.Frag) (w : World) (o : Cop) : R2 := fun x y H Q => ∃ F rho S a b k, St K w F H rho S ∧ CVb K w F H rho a x ∧ CVb K w F H rho b y ∧ cop o S a b = some k ∧ Q (.bl k) H
theorem key_of {K : PySem.W.Frag} {w : World} {F H : Hp} {rho : List Addr} {u : U} {v : V} {k : Key} (h : CVb K w F H rho u v) (e : U.key u = some k) : v = kV k := by
  cases h with
  | of h => cases h <;> simp [U.key] at e <;> subst e <;> rfl
  | bor => simp [U.key] at e
theorem dct_val {K : PySem.W.Frag} {w : World} {F : Hp} {rho : List Addr} {k : Key} : ∀ {ks : List Key} {us : List U} {vs : List V}, CVs K w F rho us vs → ks.length = vs.length →
    (∃ u v, dctGet ks us k = some u ∧ valV (ks.zip vs) k = some v ∧ CV K w F rho u v) ∨ (dctGet ks us k = none ∧ valV (ks.zip vs) k = none)
  | [], us, vs, h, l => by
    right
    cases us <;> exact ⟨rfl, rfl⟩
  | q :: ks, _, _, .nil, l => by simp at l
  | q :: ks, _, _, .cons (u := u) (v := v) (us := us) (vs := vs) h hs, l => by
    by_cases z : q = k
    · left
      subst z
      exact ⟨u, v, by simp [dctGet], by simp [valV], h⟩
    · have ih := dct_val (k := k) (ks := ks) hs (by simpa using l)
      have e1 : dctGet (q :: ks) (u :: us) k = dctGet ks us k := by simp [dctGet, z]
      have e2 : valV ((q :: ks).zip (v :: vs)) k = valV (ks.zip vs) k := by simp [valV, z]
      rw [e1, e2]
      exact ih
theorem kent_val {K : PySem.W.Frag} {w : World} {F : Hp} {rho : List Addr} {x : Str} : ∀ {es : List DictEntry} {ks : List Key} {us : List U} {vs : List V}, KEnt es ks vs → CVs K w F rho us vs →
    (∃ u v z, dctGet ks us (.inr x) = some u ∧ (es.find? fun e => e.key.isStr x).map (·.val) = some z ∧ RelV v z ∧ CV K w F rho u v) ∨ (dctGet ks us (.inr x) = none ∧ (es.find? fun e => e.key.isStr x) = none)
  | _, _, _, _, .nil, h => by
    right
    cases h
    exact ⟨rfl, rfl⟩
  | _, _, _, _, .cons (e := e) (x := y) (t := t) (v := v) (es := es) (ks := ks) (vs := vs) ek rv he, .cons (u := u) (us := us) h hs => by
    by_cases z : y = x
    · left
      subst z
      refine ⟨u, v, e.val, by simp [dctGet], ?_, rv, h⟩
      have : e.key.isStr y = true := by rw [ek]; simp [Value.isStr]
      simp [List.find?, this]
    · have ih := kent_val (x := x) he hs
      have e1 : dctGet (.inr y :: ks) (u :: us) (.inr x) = dctGet ks us (.inr x) := by simp [dctGet, z]
      have e2 : e.key.isStr x = false := by rw [ek]; simp [Value.isStr, z]
      rw [e1]
      simp only [List.find?, e2]
      exact ih
theorem kent_ref : ∀ {es : List DictEntry} {ks : List Key} {vs : List V}, KEnt es ks vs → es.any (·.refKey) = false
  | _, _, _, .nil => rfl
  | _, _, _, .cons ek rv he => by
    rw [List.any_cons, kent_ref he]
    simp [DictEntry.refKey, ek]
theorem kdc_in {K : PySem.W.Frag} {w : World} {F : Hp} {rho : List Addr} {a : Addr} {ks : List Key} {us : List U} {vs : List V} {x : Str} (h : KDc K w a ks vs) (c : CVs K w F rho us vs) :
    ∃ es n r, L2.KDict K w a es n ∧ PySem.W.nsIn K a x = some r ∧ r.isSome = (dctGet ks us (.inr x)).isSome ∧ ∀ u, dctGet ks us (.inr x) = some u → ∃ v z, r = some z ∧ RelV v z ∧ CV K w F rho u v := by
  obtain ⟨es, n, D, ke⟩ := h
  have hr := kent_ref ke
  rcases kent_val (x := x) ke c with ⟨u, v, z, e1, e2, rv, cv⟩ | ⟨e1, e2⟩
  · refine ⟨es, n, some z, D, ?_, by rw [e1]; rfl, fun u' e => ?_⟩
    · unfold PySem.W.nsIn
      rw [D.at_]
      simp only [Option.map_eq_some_iff] at e2
      obtain ⟨en, e3, e4⟩ := e2
      dsimp only
      rw [e3]
      simp [e4]
    · rw [e1] at e
      cases e
      exact ⟨v, z, rfl, rv, cv⟩
  · refine ⟨es, n, none, D, ?_, by rw [e1]; rfl, fun u' e => by rw [e1] at e; cases e⟩
    unfold PySem.W.nsIn
    rw [D.at_]
    dsimp only
    rw [e2]
    simp [hr]
def neg (b k : Bool) : Bool := if b = true then !k else k
theorem in_dct (hu : X.A.units + 1 < cLine) {pins : List (Addr × Obj)} {s : Shared} {σ : L2.St} {H : Hp} {x y : V} {v u : Value} {Q : VK} (I : Inv X pins σ H s) (rx : RelV x v) (ry : RelV y u)
    {F : Hp} {rho : List Addr} {S : Sto} {a : U} {ks : List Key} {us : List U} {k : Key} (st : St X.K X.w F H rho S) (ca : CVb X.K X.w F H rho a x) (cb : CVb X.K X.w F H rho (.dct ks us) y) (ek : U.key a = some k) :
    (Q (.bl (dctGet ks us k).isSome) H → wpAny (model X.prog X.w) X.A (compareOp .In v u) (EP X pins σ Q) X.xe s) ∧ (Q (.bl (!(dctGet ks us k).isSome)) H → wpAny (model X.prog X.w) X.A (compareOp .NotIn v u) (EP X pins σ Q) X.xe s) := by
  cases cb with
  | of cb =>
    cases cb with
    | dct h l hs =>
      rename_i p vs
      cases ry
      obtain rfl := key_of ca ek
      refine ⟨fun q => d_in hu I (DGet.k (k := k) (st.sub _ _ h)) rx fun s' J => ⟨.bl _, H, J, rfl, ?_⟩, fun q => d_notIn hu I (DGet.k (k := k) (st.sub _ _ h)) rx fun s' J => ⟨.bl _, H, J, rfl, ?_⟩⟩
      · rcases dct_val (k := k) hs l with ⟨u1, v1, e1, e2, _⟩ | ⟨e1, e2⟩
        · rw [e2]; rw [e1] at q; exact q
        · rw [e2]; rw [e1] at q; exact q
      · rcases dct_val (k := k) hs l with ⟨u1, v1, e1, e2, _⟩ | ⟨e1, e2⟩
        · rw [e2]; rw [e1] at q; exact q
        · rw [e2]; rw [e1] at q; exact q
theorem in_kdt {pins : List (Addr × Obj)} {s : Shared} {σ : L2.St} {H : Hp} {x y : V} {v u : Value} {Q : VK} (I : Inv X pins σ H s) (rx : RelV x v) (ry : RelV y u)
    {F : Hp} {rho : List Addr} {S : Sto} {z : Str} {ks : List Key} {us : List U} (st : St X.K X.w F H rho S) (ca : CVb X.K X.w F H rho (.str z) x) (cb : CVb X.K X.w F H rho (.kdt ks us) y) :
    (Q (.bl (dctGet ks us (.inr z)).isSome) H → wpAny (model X.prog X.w) X.A (compareOp .In v u) (EP X pins σ Q) X.xe s) ∧ (Q (.bl (!(dctGet ks us (.inr z)).isSome)) H → wpAny (model X.prog X.w) X.A (compareOp .NotIn v u) (EP X pins σ Q) X.xe s) := by
  cases cb with
  | of cb =>
    cases cb with
    | kdc h hs =>
      obtain ⟨es, n, r, D, e1, e2, _⟩ := kdc_in (x := z) h hs
      cases ca with
      | of ca =>
        cases ca
        exact ⟨fun q => op_in_kd D pins s σ H _ _ v u Q I rx ry ⟨z, r, rfl, rfl, e1, by rw [e2]; exact q⟩, fun q => op_notIn_kd D pins s σ H _ _ v u Q I rx ry ⟨z, r, rfl, rfl, e1, by rw [e2]; exact q⟩⟩
theorem in_flat {pins : List (Addr × Obj)} {s : Shared} {σ : L2.St} {H : Hp} {x y : V} {v u : Value} {Q : VK} (I : Inv X pins σ H s) (rx : RelV x v) (ry : RelV y u)
    {F : Hp} {rho : List Addr} {a : U} {us : List U} {p : Addr} {vs : List V} {k : Bool} (ca : CVb X.K X.w F H rho a x) (ey : y = .ref p) (hq : SqL X.K H p vs ∨ SqT X.K H p vs) (cs : CVs X.K X.w F rho us vs) (e : inFlat a us = some k) :
    (Q (.bl k) H → wpAny (model X.prog X.w) X.A (compareOp .In v u) (EP X pins σ Q) X.xe s) ∧ (Q (.bl (!k)) H → wpAny (model X.prog X.w) X.A (compareOp .NotIn v u) (EP X pins σ Q) X.xe s) := by
  subst ey
  unfold inFlat at e
  simp only [Option.bind_eq_some_iff, Option.map_eq_some_iff] at e
  obtain ⟨x', e1, xs, e2, rfl⟩ := e
  obtain ⟨rfl, f1⟩ := flatV_of ca e1
  obtain ⟨rfl, f2⟩ := flats_of cs e2
  exact ⟨fun q => op_in_seq pins s σ H _ _ v u Q I rx ry ⟨p, _, rfl, hq, f1, f2, by simpa using q⟩, fun q => op_notIn_seq pins s σ H _ _ v u Q I rx ry ⟨p, _, rfl, hq, f1, f2, by simpa using q⟩⟩
theorem is_non {K : PySem.W.Frag} {w : World} {F H : Hp} {rho : List Addr} {u : U} {v : V} (h : CVb K w F H rho u v) : decide (v = .non) = (match u with | .non => true | _ => false) := by
  cases h with
  | of h => cases h <;> simp
  | bor => simp
theorem cvb_non {K : PySem.W.Frag} {w : World} {F H : Hp} {rho : List Addr} {v : V} (h : CVb K w F H rho .non v) : v = .non := by
  cases h with
  | of h => cases h; rfl
theorem opr_cop (hu : X.A.units + 64 < cLine) (o : Cop) : OpR X (compareOp (copA o)) (rCop X.K X.w o) := by
  intro pins s σ H x y v u Q I rx ry h
  obtain ⟨F, rho, S, a, b, k, st, ca, cb, e, q⟩ := h
  have hu1 : X.A.units + 1 < cLine := by omega
  cases o with
  | eq =>
    simp only [cop, pyEq, Option.bind_eq_some_iff] at e
    obtain ⟨d, e1, d', e2, e3⟩ := e
    split at e3
    · rename_i hs
      cases e3
      rw [Bool.and_eq_true] at hs
      exact op_eqD hu pins s σ H _ _ v u Q I rx ry ⟨d, d', ca.dp st.sub e1, cb.dp st.sub e2, hs.1, hs.2, q⟩
    · cases e3
  | ne =>
    simp only [cop, pyEq, Option.bind_eq_some_iff, Option.map_eq_some_iff] at e
    obtain ⟨k', ⟨d, e1, d', e2, e3⟩, rfl⟩ := e
    split at e3
    · rename_i hs
      cases e3
      rw [Bool.and_eq_true] at hs
      exact op_neD hu pins s σ H _ _ v u Q I rx ry ⟨d, d', ca.dp st.sub e1, cb.dp st.sub e2, hs.1, hs.2, q⟩
    · cases e3
  | lt =>
    simp only [cop] at e
    split at e
    · cases e
      obtain rfl := ca.int; obtain rfl := cb.int
      exact op_lt pins s σ H _ _ v u Q I rx ry ⟨_, _, rfl, rfl, q⟩
    · cases e
  | le =>
    simp only [cop] at e
    split at e
    · cases e
      obtain rfl := ca.int; obtain rfl := cb.int
      exact op_le pins s σ H _ _ v u Q I rx ry ⟨_, _, rfl, rfl, q⟩
    · cases e
  | gt =>
    simp only [cop] at e
    split at e
    · cases e
      obtain rfl := ca.int; obtain rfl := cb.int
      exact op_gt pins s σ H _ _ v u Q I rx ry ⟨_, _, rfl, rfl, q⟩
    · cases e
  | ge =>
    simp only [cop] at e
    split at e
    · cases e
      obtain rfl := ca.int; obtain rfl := cb.int
      exact op_ge pins s σ H _ _ v u Q I rx ry ⟨_, _, rfl, rfl, q⟩
    · cases e
  | isN =>
    have hn := is_non ca
    simp only [cop] at e
    split at e
    · cases e
    · cases e
      refine op_isN pins s σ H _ _ v u Q I rx ry ⟨cvb_non cb, ?_⟩
      rw [hn]; exact q
    · cases e
      refine op_isN pins s σ H _ _ v u Q I rx ry ⟨cvb_non cb, ?_⟩
      rw [hn]
      rename_i h1 h2
      cases a <;> first | exact absurd rfl (h2) | exact q
    · cases e
  | notN =>
    have hn := is_non ca
    simp only [cop] at e
    split at e
    · cases e
    · cases e
      refine op_notN pins s σ H _ _ v u Q I rx ry ⟨cvb_non cb, ?_⟩
      rw [hn]; exact q
    · cases e
      refine op_notN pins s σ H _ _ v u Q I rx ry ⟨cvb_non cb, ?_⟩
      rw [hn]
      rename_i h1 h2
      cases a <;> first | exact absurd rfl (h2) | exact q
    · cases e
  | isin =>
    simp only [cop] at e
    split at e
    · obtain ⟨p, vs, ey, hq, cs⟩ := cb.tup st
      exact (in_flat I rx ry ca ey (.inr hq) cs e).1 q
    · obtain ⟨p, vs, ey, hq, cs⟩ := cb.items st rfl
      exact (in_flat I rx ry ca ey (.inl hq) cs e).1 q
    · simp only [Option.map_eq_some_iff] at e
      obtain ⟨k1, e1, rfl⟩ := e
      exact (in_dct hu1 I rx ry st ca cb e1).1 q
    · split at e
      · cases e
        exact (in_kdt I rx ry st ca cb).1 q
      · cases e
    · cases e
  | notin =>
    simp only [cop] at e
    split at e
    · simp only [Option.map_eq_some_iff] at e
      obtain ⟨k1, e1, rfl⟩ := e
      obtain ⟨p, vs, ey, hq, cs⟩ := cb.tup st
      exact (in_flat I rx ry ca ey (.inr hq) cs e1).2 q
    · simp only [Option.map_eq_some_iff] at e
      obtain ⟨k1, e1, rfl⟩ := e
      obtain ⟨p, vs, ey, hq, cs⟩ := cb.items st rfl
      exact (in_flat I rx ry ca ey (.inl hq) cs e1).2 q
    · simp only [Option.map_eq_some_iff] at e
      obtain ⟨k1, e1, rfl⟩ := e
      exact (in_dct hu1 I rx ry st ca cb e1).2 q
    · split at e
      · cases e
        exact (in_kdt I rx ry st ca cb).2 q
      · cases e
    · cases e
end
end Far

set_option Elab.async false
set_option linter.all false
set_option maxRecDepth 100000
set_option maxHeartbeats 4000000
/-! Further primitives: functions, items, slices, truth, isinstance. -/
namespace Far
open PySem PySem.Spec PyProof.Rows L2
section
variable {X : Cx}
def fnV : Fn → Value
  | .len => .builtin "len"
  | .all => .builtin "all"
  | .any => .builtin "any"
  | .tuple => .type "tuple"
  | .list => .type "list"
  | .abs => .builtin "abs"
def rFn (K : PySem.W.Frag) (w : World) (f : Fn) : List V → Hp → VK → Prop := fun xs H Q => ∃ F rho S u x p, xs = [x] ∧ St K w F H rho S ∧ CVb K w F H rho u x ∧ fnc f S [u] = some p ∧ PP K w F H rho p Q
theorem bls_of {K : PySem.W.Frag} {w : World} {F : Hp} {rho : List Addr} : ∀ {us : List U} {vs : List V} {bs : List Bool}, CVs K w F rho us vs → bls us = some bs → vs = bs.map V.bl
  | _, _, bs, .nil, e => by
    simp only [bls, Option.some.injEq] at e
    subst e
    rfl
  | _, _, bs, .cons h hs, e => by
    cases h with
    | bl b =>
      simp only [bls, Option.map_eq_some_iff] at e
      obtain ⟨cs, e1, rfl⟩ := e
      rw [bls_of hs e1]
      rfl
    | _ => simp [bls] at e
theorem cr_fn (hc : X.calm = true) (f : Fn) : CallR X (fnV f) (rFn X.K X.w f) := by
  intro pins s σ H xs us Q I r h
  obtain ⟨F, rho, S, u, x, p, rfl, st, cu, e, q⟩ := h
  unfold fnc at e
  split at e
  · rename_i ws heq
    cases heq
    cases e
    obtain ⟨a, vs, rfl, hq, cs⟩ := cu.tup st
    exact call_len_seq pins s σ H _ us Q I r ⟨a, vs, rfl, .inr hq, by rw [← cs.length]; exact q.here st (.int _)⟩
  · rename_i ks us' heq
    cases heq
    cases e
    cases cu with
    | of cu =>
      cases cu with
      | dct h l hs =>
        refine call_lenD pins s σ H _ us Q I r ⟨_, _, rfl, st.sub _ _ h, ?_⟩
        rw [List.length_zip, ← l, Nat.min_self]
        exact q.here st (.int _)
  · rename_i u' h1 h2 heq
    cases heq
    simp only [Option.map_eq_some_iff] at e
    obtain ⟨ws, e1, rfl⟩ := e
    obtain ⟨a, vs, rfl, hq, cs⟩ := cu.items st e1
    exact call_len_seq pins s σ H _ us Q I r ⟨a, vs, rfl, .inl hq, by rw [← cs.length]; exact q.here st (.int _)⟩
  · rename_i u' heq
    cases heq
    simp only [Option.bind_eq_some_iff, Option.map_eq_some_iff] at e
    obtain ⟨ws, e1, bs, e2, rfl⟩ := e
    obtain ⟨a, vs, rfl, hq, cs⟩ := cu.items st e1
    rw [bls_of cs e2] at hq
    exact cr_all hc pins s σ H _ us Q I r ⟨a, bs, rfl, hq, q.here st (.bl _)⟩
  · rename_i u' heq
    cases heq
    simp only [Option.bind_eq_some_iff, Option.map_eq_some_iff] at e
    obtain ⟨ws, e1, bs, e2, rfl⟩ := e
    obtain ⟨a, vs, rfl, hq, cs⟩ := cu.items st e1
    rw [bls_of cs e2] at hq
    exact cr_any hc pins s σ H _ us Q I r ⟨a, bs, rfl, hq, q.here st (.bl _)⟩
  · rename_i ws heq
    cases heq
    cases e
    obtain ⟨a, vs, rfl, hq, cs⟩ := cu.tup st
    refine call_tuple_of pins s σ H _ us Q I r ⟨a, vs, rfl, .inr ⟨hq, ?_⟩⟩
    cases cu with
    | of cu => exact q.here st cu
  · rename_i u' h1 heq
    cases heq
    simp only [Option.map_eq_some_iff] at e
    obtain ⟨ws, e1, rfl⟩ := e
    obtain ⟨a, vs, rfl, hq, cs⟩ := cu.items st e1
    exact call_tuple_of pins s σ H _ us Q I r ⟨a, vs, rfl, .inl ⟨hq, fun l n => q.newT st cs n⟩⟩
  · rename_i ws heq
    cases heq
    cases e
    obtain ⟨a, vs, rfl, hq, cs⟩ := cu.tup st
    exact call_list_of pins s σ H _ us Q I r ⟨a, vs, rfl, .inr hq, fun l n => q l _ n cs⟩
  · rename_i u' h1 heq
    cases heq
    simp only [Option.map_eq_some_iff] at e
    obtain ⟨ws, e1, rfl⟩ := e
    obtain ⟨a, vs, rfl, hq, cs⟩ := cu.items st e1
    exact call_list_of pins s σ H _ us Q I r ⟨a, vs, rfl, .inl hq, fun l n => q l _ n cs⟩
  · rename_i i heq
    cases heq
    cases e
    obtain rfl := cu.int
    exact call_abs pins s σ H _ us Q I r ⟨i, rfl, q.here st (.int _)⟩
  · cases e

/-! ### items -/
theorem CVs.atI {K : PySem.W.Frag} {w : World} {F : Hp} {rho : List Addr} {us : List U} {vs : List V} {i : Int} {u : U} (h : CVs K w F rho us vs) (e : L2.atI us i = some u) : ∃ v, L2.atI vs i = some v ∧ CV K w F rho u v := by
  unfold L2.atI at e ⊢
  rw [← h.length]
  cases q : ixN us.length i with
  | none => rw [q] at e; cases e
  | some j =>
    rw [q] at e
    exact h.get e
def rItem (K : PySem.W.Frag) (w : World) : R2 := fun x y H Q => ∃ F rho S o i u, St K w F H rho S ∧ CVb K w F H rho o x ∧ CVb K w F H rho i y ∧ item S o i = some u ∧ ∀ v, CV K w F rho u v → Q v H
theorem ix_item (hu : X.A.units + 1 < cLine) : IxR X (rItem X.K X.w) := by
  intro value slice pins s σ H x y v u Q I rx ry h hs
  obtain ⟨F, rho, S, o, i, z, st, co, ci, e, q⟩ := h
  unfold item at e
  split at e
  · obtain ⟨a, vs, rfl, hq, cs⟩ := co.tup st
    obtain rfl := ci.int
    obtain ⟨r, e1, c⟩ := cs.atI e
    exact ix_tup value slice pins s σ H _ _ v u Q I rx ry ⟨a, vs, _, r, rfl, rfl, hq, e1, q r c⟩ hs
  · simp only [Option.bind_eq_some_iff] at e
    obtain ⟨k, e1, e2⟩ := e
    cases co with
    | of co =>
      cases co with
      | dct h l hs' =>
        rename_i ks us p vs
        cases rx
        obtain rfl := key_of ci e1
        rcases dct_val (k := k) hs' l with ⟨u1, v1, e3, e4, c⟩ | ⟨e3, e4⟩
        · rw [e2] at e3
          cases e3
          have g : DGet H p (kV k) (some v1) := by
            rw [← e4]
            exact DGet.k (st.sub _ _ h)
          exact tail_any (dict_typeIs I g) PySem.F.slot_dict_getitem.lookup (d_getItem hu I g ry fun w' s3 I3 rw' => ⟨v1, H, I3, rw', q v1 c⟩) hs
        · rw [e2] at e3
          cases e3
  · cases co with
    | of co =>
      cases co with
      | kdc h hs' =>
        rename_i p vs
        cases ci with
        | of ci =>
          cases ci
          rename_i zz
          obtain ⟨es, n, r, D, e1, _, e3⟩ := kdc_in (x := zz) h hs'
          obtain ⟨v1, z1, rfl, rv, c⟩ := e3 _ e
          exact ix_kdict value slice pins s σ H _ _ v u Q I rx ry ⟨p, zz, v1, rfl, rfl, ⟨es, n, z1, D.at_, D.lit, e1, rv⟩, q v1 c⟩ hs
  · simp only [Option.bind_eq_some_iff] at e
    obtain ⟨us, e1, e2⟩ := e
    obtain ⟨a, vs, rfl, hq, cs⟩ := co.items st e1
    obtain rfl := ci.int
    obtain ⟨r, e3, c⟩ := cs.atI e2
    exact ix_list value slice pins s σ H _ _ v u Q I rx ry ⟨a, vs, _, r, rfl, rfl, hq, e3, q r c⟩ hs
  · cases e

/-! ### slices -/
def rCut (K : PySem.W.Frag) (w : World) : V → Option Int → Option Int → Hp → VK → Prop := fun x lo hi H Q => ∃ F rho S o p, St K w F H rho S ∧ CVb K w F H rho o x ∧ cut S o lo hi = some p ∧ PP K w F H rho p Q
theorem cutL_all {α : Type} {xs : List α} {lo hi : Option Int} (h : HT.sIx xs.length 0 lo = 0 ∧ HT.sIx xs.length xs.length hi = xs.length) : cutL xs lo hi = xs := by
  unfold cutL
  rw [h.1, h.2]
  simp
theorem sl_cut : SlR X (rCut X.K X.w) := by
  intro pins s σ H x v vl vu lo hi sl Q I rx hs pl pu h
  obtain ⟨F, rho, S, o, p, st, co, e, q⟩ := h
  unfold cut at e
  split at e
  · cases e
    obtain ⟨a, vs, rfl, hq, cs⟩ := co.tup st
    refine sl_tupA pins s σ H _ v vl vu lo hi sl Q I rx hs pl pu ⟨a, vs, rfl, hq, fun z => ?_, fun _ p n => q.newT st (cs.cut lo hi) n⟩
    rw [← cs.length] at z
    rw [cutL_all z] at q
    cases co with
    | of co => exact q.here st co
  · simp only [Option.map_eq_some_iff] at e
    obtain ⟨us, e1, rfl⟩ := e
    obtain ⟨a, vs, rfl, hq, cs⟩ := co.items st e1
    exact sl_list pins s σ H _ v vl vu lo hi sl Q I rx hs pl pu ⟨a, vs, rfl, hq, fun p n => q p _ n (cs.cut lo hi)⟩

/-! ### truth -/
theorem truth_of {K : PySem.W.Frag} {w : World} {F H : Hp} {rho : List Addr} {S : Sto} {u : U} {v : V} {k : Bool} (st : St K w F H rho S) (h : CV K w F rho u v) (e : truth S u = some k) : TruV K v H k := by
  cases h with
  | non => cases e; rfl
  | bl b => cases e; rfl
  | int i => cases e; rfl
  | str x => cases e
  | tup hq cs =>
    cases e
    refine .inr (.inl ⟨_, same_t st.sub hq, ?_⟩)
    cases cs <;> rfl
  | lst hq cs =>
    cases e
    refine .inl ⟨_, SqL.of (st.sub _ _ hq), ?_⟩
    cases cs <;> rfl
  | fz hq cs => cases e
  | dct => cases e
  | kdc => cases e
  | ref => cases e

/-! ### isinstance -/
def tyStr : Ty → String
  | .int => "int"
  | .bool => "bool"
  | .str => "str"
  | .tuple => "tuple"
  | .list => "list"
  | .dict => "dict"
def ofU : U → Option String
  | .non => some "NoneType"
  | .bl _ => some "bool"
  | .int _ => some "int"
  | .str _ => some "str"
  | .tup _ => some "tuple"
  | .lst _ => some "list"
  | .dct _ _ => some "dict"
  | _ => none
theorem tyx_of {K : PySem.W.Frag} {w : World} {F H : Hp} {rho : List Addr} {u : U} {v : V} {t : String} (s : Same F H) (h : CV K w F rho u v) (e : ofU u = some t) : TyX K H v (.type t) := by
  cases h with
  | non => cases e; exact .base .non
  | bl b => cases e; exact .base (.bl b)
  | int i => cases e; exact .base (.int i)
  | str x => cases e; exact .base (.str x)
  | tup hq cs =>
    cases e
    rcases hq with (h | ⟨o, h⟩) | ⟨o, its, n, h1, h2, _⟩
    · exact .base (.tup (s _ _ h))
    · exact .fTuple (s _ _ h)
    · exact .kTuple h1 h2
  | lst hq cs => cases e; exact .base (.lst (s _ _ hq))
  | fz hq cs => cases e
  | dct h => cases e; exact .base (.dK (s _ _ h))
  | kdc => cases e
  | ref => cases e
theorem tyIs_kit {t : Ty} {u : U} {k : Bool} (e : tyIs t u = some k) : ∃ n, ofU u = some n ∧ kitB n (tyStr t) = some k := by
  cases t <;> cases u <;> simp only [tyIs, Option.some.injEq, reduceCtorEq] at e <;> subst e <;> exact ⟨_, rfl, by decide +kernel⟩
end
end Far

set_option Elab.async false
set_option linter.all false
set_option maxRecDepth 100000
set_option maxHeartbeats 4000000
/-! a, b, *c = a tuple or a list. -/
namespace Far
open PySem PySem.Spec PyProof.Rows L2
section
variable {prog : Program} {w : World} {A : Around} {E : Value → Shared → Prop} {s : Shared}
theorem walksT (hh : A.handled = none) (it t : Addr) (hne : t ≠ it) (items : Array Value) (i0 : Nat) (hi0 : i0 ≤ items.size) :
    WalksS prog w A it [it, t] [it] (fun a b => a = b) (items.size - i0) (fun j v => items[i0 + j]? = some v) (fun j s => IsTupIter s.heap it t (i0 + j) ∧ IsTup s.heap t items) where
  sub := fun b hb => by simp at hb; simp [hb]
  grefl := fun _ => rfl
  gtrans := fun _ _ _ a b => a.trans b
  frame := fun i s h' tk st _ hk => ⟨let ⟨o, e, r⟩ := st.1; ⟨o, hk it (by simp) o e, r⟩, let ⟨o, e, r⟩ := st.2; ⟨o, hk t (by simp) o e, r⟩⟩
  item := fun i s Q E hi st hQ => by
    refine next_tuple_item st.1 st.2 (x := items[i0 + i]'(by omega)) (by simp [show i0 + i < items.size by omega]) fun h' hit' hs' => ?_
    exact hQ _ _ (by simp [show i0 + i < items.size by omega]) ⟨hit', st.2.extBut hs'.extBut hne⟩ ⟨fun b o hb e => hs'.extBut b o (fun h => hb (by simp [h])) e, rfl, rfl, rfl, Nat.le_refl _⟩
  done := fun s Q E st hQ => by
    refine next_tuple_end hh st.1 st.2 (by rw [Array.getElem?_eq_none_iff]; omega) fun h' he' => ?_
    exact hQ _ ⟨fun b o hb e => he' b o (fun h => hb (by simp [h])) e, rfl, rfl, rfl, Nat.le_refl _⟩
  self := fun _ _ _ _ st hQ => wpAny_pyIter_tupleiter st.1 hQ
theorem walksL (hh : A.handled = none) (it t : Addr) (hne : t ≠ it) (items : Array Value) (i0 : Nat) (hi0 : i0 ≤ items.size) :
    WalksS prog w A it [it, t] [it] (fun a b => a = b) (items.size - i0) (fun j v => items[i0 + j]? = some v) (fun j s => s.heap.IsListIter it t (i0 + j) ∧ s.heap.IsList t items) where
  sub := fun b hb => by simp at hb; simp [hb]
  grefl := fun _ => rfl
  gtrans := fun _ _ _ a b => a.trans b
  frame := fun i s h' tk st _ hk => ⟨st.1.at fun o e => hk it (by simp) o e, st.2.at fun o e => hk t (by simp) o e⟩
  item := fun i s Q E hi st hQ => by
    refine wpAny_pyNext_list_item st.1 st.2 (x := items[i0 + i]'(by omega)) (by simp [show i0 + i < items.size by omega]) fun h' hit' hs' => ?_
    exact hQ _ _ (by simp [show i0 + i < items.size by omega]) ⟨hit', st.2.extBut hs'.extBut hne⟩ ⟨fun b o hb e => hs'.extBut b o (fun h => hb (by simp [h])) e, rfl, rfl, rfl, Nat.le_refl _⟩
  done := fun s Q E st hQ => by
    refine wpAny_pyNext_list_end hh st.1 st.2 (by rw [Array.getElem?_eq_none_iff]; omega) fun h' he' => ?_
    exact hQ _ ⟨fun b o hb e => he' b o (fun h => hb (by simp [h])) e, rfl, rfl, rfl, Nat.le_refl _⟩
  self := fun _ _ _ _ st hQ => wpAny_pyIter_listiter st.1 hQ
/-- the first n of a walk -/
theorem drawW {I : Addr} {fp wr : List Addr} {m : Nat} {f : Nat → Option Value} {St : Nat → Shared → Prop} (W : WalksS prog w A I fp wr (fun a b => a = b) m (fun j v => f j = some v) St) :
    ∀ (n i : Nat) (s : Shared) (Q : List Value → Shared → Prop), St i s → i + n ≤ m → (∀ s' vs, St (i + n) s' → Moved wr (fun a b => a = b) s s' → vs.length = n → (∀ j v, vs[j]? = some v → f (i + j) = some v) → Q vs s') → wpAny (model prog w) A (draw (.ref I) n) Q E s
  | 0, i, s, Q, st, _, hQ => by
    show wpAny _ _ (pure []) Q E s
    exact wpAny_pure (hQ s [] st ⟨fun _ _ _ e => e, rfl, rfl, rfl, Nat.le_refl _⟩ rfl fun j v h => by simp at h)
  | n + 1, i, s, Q, st, hle, hQ => by
    show wpAny _ _ (pyNext (.ref I) >>= _) Q E s
    refine wpAny_bind (W.item i s _ _ (by omega) st fun v s1 hv st1 m1 => ?_)
    refine wpAny_bind (wpAny_holding (drawW W n (i + 1) s1 _ st1 (by omega) fun s2 vs st2 m2 hl hj => wpAny_pure ?_))
    refine hQ s2 (v :: vs) (by rw [show i + (n + 1) = i + 1 + n by omega]; exact st2) ⟨fun b o hb e => m2.heap b o hb (m1.heap b o hb e), m1.gens.trans m2.gens, m2.drawn.trans m1.drawn, m2.os.trans m1.os, Nat.le_trans m1.toks m2.toks⟩ (by simp [hl]) fun j u hu => ?_
    cases j with
    | zero =>
      simp at hu
      subst hu
      exact hv
    | succ j =>
      have := hj j u (by simpa using hu)
      rw [show i + (j + 1) = i + 1 + j by omega]
      exact this
theorem list_of_get : ∀ {xs ys : List Value}, xs.length = ys.length → (∀ (j : Nat) (v : Value), xs[j]? = some v → ys[j]? = some v) → xs = ys := fun {xs ys} hl h => by
  apply List.ext_getElem? fun j => ?_
  by_cases hj : j < xs.length
  · rw [List.getElem?_eq_getElem hj]
    exact (h j _ (List.getElem?_eq_getElem hj)).symm
  · rw [List.getElem?_eq_none (by omega), List.getElem?_eq_none (by omega)]
/-- k names and one for the rest -/
theorem unpackItems_star {v : Value} {items : Array Value} {k : Nat} {Q : List Value → Shared → Prop} {it : Addr} {fp : List Addr} {St : Nat → Nat → Shared → Prop} {T : String} (s0 : Shared)
    (hT : T = "list_iterator" ∨ T = "tuple_iterator") (hk : k ≤ items.size) (hz : items.size ≤ sizeLine)
    (hno : ∀ {Q : Bool → Shared → Prop}, Q false s → wpAny (model prog w) A (notIterableAtAll v) Q E s)
    (hit : ∀ {Q : Value → Shared → Prop}, Q (.ref it) s0 → wpAny (model prog w) A (pyIter v) Q E s)
    (W : ∀ i0 A, A.handled = none → i0 ≤ items.size → WalksS prog w A it fp [it] (fun a b => a = b) (items.size - i0) (fun j v => items[i0 + j]? = some v) (St i0)) (hh : A.handled = none)
    (hTy : ∀ i0 i s, St i0 i s → s.TypeIs (.ref it) T) (hst : St 0 0 s0) (hsh : ∀ i s, St 0 i s → St i 0 s) (hfp : ∀ i0 i (s : Shared), St i0 i s → ∀ b ∈ fp, b < s.heap.objs.size) (hI : it ∈ fp)
    (hs0 : ∀ b o, s.heap.get? b = some o → b ≠ it ∧ s0.heap.get? b = some o) (hg0 : s0.gens = s.gens ∧ s0.drawn = s.drawn ∧ s0.os = s.os ∧ s.toks ≤ s0.toks)
    (hQ : ∀ (h' : Heap) (tk : Nat), (∀ b o, s.heap.get? b = some o → h'.get? b = some o) → Q (items.toList.take k ++ [.ref h'.objs.size]) { s with heap := h'.push { cls := .type "list", data := .seq (items.toList.drop k).toArray }, toks := tk }) :
    wpAny (model prog w) A (unpackItems v (k + 1) (some k)) Q E s := by
  unfold unpackItems
  refine wpAny_bind (hno ?_)
  simp only [Bool.false_eq_true, if_false]
  refine wpAny_bind (wpAny_holding (hit ?_))
  refine wpAny_bind (wpAny_holding (drawW (W 0 A hh (Nat.zero_le _)) k 0 s0 _ hst (by omega) fun s1 vs st1 m1 hl hj => ?_))
  have hvs : vs = items.toList.take k := by
    refine list_of_get (by rw [hl, List.length_take]; simp only [Array.length_toList]; omega) fun j u hu => ?_
    have h1 := hj j u hu
    have h2 : j < k := by
      rw [← hl]
      exact (List.getElem?_eq_some_iff.mp hu).1
    rw [List.getElem?_take_of_lt h2, Array.getElem?_toList]
    simpa using h1
  subst hvs
  rw [if_neg (by rw [hl]; omega)]
  have st1' : St k 0 s1 := hsh k s1 (by simpa using st1)
  have hA1 : A.in1.handled = none := hh
  refine wpAny_bind (wpAny_holding (wpAny_collect_iter (T := T) (by rcases hT with h | h <;> simp [h]) (W k A.in1 hA1 hk) (fun i s h => hTy k i s h) st1' (fun b hb => hfp k 0 s1 st1' b hb) hI (fun s2 acc m2 hacc => ?_) (by omega)))
  have hrest : acc.toList = items.toList.drop k := by
    refine list_of_get (by rw [Array.length_toList, hacc.1, List.length_drop, Array.length_toList]) fun j u hu => ?_
    have h1 := hacc.2 j u (by simpa using hu)
    rw [List.getElem?_drop, Array.getElem?_toList]
    exact h1
  have hlen : acc.toList.length = items.size - k := by rw [Array.length_toList, hacc.1]
  have e0 : k + 1 - 1 - k = 0 := by omega
  rw [e0]
  rw [if_neg (by omega)]
  rw [Nat.sub_zero, List.take_length, List.drop_length]
  refine wpAny_bind (wpAny_newObj_type ?_ (by show acc.toList.toArray.size ≤ sizeLine; simp only [List.size_toArray]; omega))
  refine wpAny_pure ?_
  obtain ⟨hp, g, d, t, os⟩ := s
  obtain ⟨hp2, g2, d2, t2, os2⟩ := s2
  have k1 : ∀ b o, hp.get? b = some o → hp2.get? b = some o := fun b o e => by
    obtain ⟨nb, e1⟩ := hs0 b o e
    exact m2.heap b o (by simpa using nb) (m1.heap b o (by simpa using nb) e1)
  have e1 : g2 = g := (m2.gens.symm.trans (m1.gens.symm.trans hg0.1))
  have e2 : d2 = d := m2.drawn.trans (m1.drawn.trans hg0.2.1)
  have e3 : os2 = os := m2.os.trans (m1.os.trans hg0.2.2.1)
  subst e1 e2 e3
  rw [List.append_nil, hrest]
  exact hQ hp2 t2 k1
theorem unpack_star_tuple {t : Addr} {items : Array Value} {k : Nat} {Q : List Value → Shared → Prop} (hh : A.handled = none) (ht : IsTup s.heap t items) (hk : k ≤ items.size) (hz : items.size ≤ sizeLine)
    (hQ : ∀ (h' : Heap) (tk : Nat), (∀ b o, s.heap.get? b = some o → h'.get? b = some o) → Q (items.toList.take k ++ [.ref h'.objs.size]) { s with heap := h'.push { cls := .type "list", data := .seq (items.toList.drop k).toArray }, toks := tk }) :
    wpAny (model prog w) A (unpackItems (.ref t) (k + 1) (some k)) Q E s := by
  have hlt : t < s.heap.objs.size := by obtain ⟨o, ho, _⟩ := ht; exact Heap.lt_size ho
  have hne : t ≠ s.heap.objs.size := Nat.ne_of_lt hlt
  refine unpackItems_star (it := s.heap.objs.size) (fp := [s.heap.objs.size, t]) (T := "tuple_iterator") (St := fun i0 j s' => IsTupIter s'.heap s.heap.objs.size t (i0 + j) ∧ IsTup s'.heap t items)
    { s with heap := s.heap.push { cls := .type "tuple_iterator", data := .fields #[.ref t, .int 0 0] } } (.inr rfl) hk hz (fun q => ?_) (fun q => iter_tuple ht q) (fun i0 A hA hi => walksT hA _ t hne items i0 hi) hh
    (fun i0 i s' h => let ⟨o, e, c, _⟩ := h.1; ⟨o, e, c⟩) ⟨⟨_, Heap.get?_push_size _ rfl, rfl, rfl⟩, ht.push _⟩ (fun i s' h => by simpa using h) (fun i0 i s' h b hb => ?_) (by simp) (fun b o e => ⟨Nat.ne_of_lt (Heap.lt_size e), Heap.get?_push_of_some _ e⟩) ⟨rfl, rfl, rfl, Nat.le_refl _⟩ hQ
  · unfold notIterableAtAll
    exact wpAny_bind (wpAny_specialOf ht.typeIs slot_tuple_iter.lookup (wpAny_pure q))
  · rcases List.mem_cons.mp hb with rfl | hb
    · obtain ⟨o, e, _⟩ := h.1; exact Heap.lt_size e
    · have : b = t := by simpa using hb
      subst this
      obtain ⟨o, e, _⟩ := h.2; exact Heap.lt_size e
theorem unpack_star_list {t : Addr} {items : Array Value} {k : Nat} {Q : List Value → Shared → Prop} (hh : A.handled = none) (ht : s.heap.IsList t items) (hk : k ≤ items.size) (hz : items.size ≤ sizeLine)
    (hQ : ∀ (h' : Heap) (tk : Nat), (∀ b o, s.heap.get? b = some o → h'.get? b = some o) → Q (items.toList.take k ++ [.ref h'.objs.size]) { s with heap := h'.push { cls := .type "list", data := .seq (items.toList.drop k).toArray }, toks := tk }) :
    wpAny (model prog w) A (unpackItems (.ref t) (k + 1) (some k)) Q E s := by
  have hlt : t < s.heap.objs.size := by obtain ⟨o, ho, _⟩ := ht; exact Heap.lt_size ho
  have hne : t ≠ s.heap.objs.size := Nat.ne_of_lt hlt
  refine unpackItems_star (it := s.heap.objs.size) (fp := [s.heap.objs.size, t]) (T := "list_iterator") (St := fun i0 j s' => s'.heap.IsListIter s.heap.objs.size t (i0 + j) ∧ s'.heap.IsList t items)
    { s with heap := s.heap.push { cls := .type "list_iterator", data := .fields #[.ref t, .int 0 0] } } (.inl rfl) hk hz (fun q => ?_) (fun q => wpAny_pyIter_list ht q) (fun i0 A hA hi => walksL hA _ t hne items i0 hi) hh
    (fun i0 i s' h => let ⟨o, e, c, _⟩ := h.1; ⟨o, e, c⟩) ⟨⟨_, Heap.get?_push_size _ rfl, rfl, rfl⟩, ht.push _⟩ (fun i s' h => by simpa using h) (fun i0 i s' h b hb => ?_) (by simp) (fun b o e => ⟨Nat.ne_of_lt (Heap.lt_size e), Heap.get?_push_of_some _ e⟩) ⟨rfl, rfl, rfl, Nat.le_refl _⟩ hQ
  · unfold notIterableAtAll
    exact wpAny_bind (wpAny_specialOf ht.typeIs slot_list_iter.lookup (wpAny_pure q))
  · rcases List.mem_cons.mp hb with rfl | hb
    · obtain ⟨o, e, _⟩ := h.1; exact Heap.lt_size e
    · have : b = t := by simpa using hb
      subst this
      obtain ⟨o, e, _⟩ := h.2; exact Heap.lt_size e
end
section
variable {X : Cx}
/-- names and one for the rest, of a tuple or a list -/
def gStar (K : PySem.W.Frag) (k : Nat) (t : TGs) : TG := fun v σ H Q => ∃ a xs, v = .ref a ∧ (SqT K H a xs ∨ SqL K H a xs) ∧ k ≤ xs.length ∧ ∀ p, H p = none → t (xs.take k ++ [.ref p]) σ (upd H p (.lst (xs.drop k))) Q
theorem pg_star {es fs : List Expr} {n : Nat} {pos : Pos} {t : TGs} {k : Nat} (hc : X.calm = true) (h : PGs X fs t) (hn : (assignEach es X.env).length = k + 1) (hst : (assignEach es X.env).findIdx? (·.1) = some k)
    (hm : (assignEach es X.env).map (·.2) = (assignEach fs X.env).map (·.2)) : PG X (.Tuple es n pos) (gStar X.K k t) := by
  refine ⟨fun pins s σ H v u Q I r hw => ?_⟩
  obtain ⟨a, xs, e1, hq, hl, hw⟩ := hw
  subst e1
  cases r
  rw [assign_Tuple]
  refine wpAny_bind (wpAny_standAt ?_)
  unfold unpack
  rw [hn, hst]
  have fin : ∀ (its : List Value), Vals xs its → xs.length ≤ sizeLine → ∀ (h' : Heap) (tk : Nat), (∀ b o, s.heap.get? b = some o → h'.get? b = some o) →
      wpAny (model X.prog X.w) X.A (assignInOrder ((assignEach es X.env).map (·.2)) (its.take k ++ [.ref h'.objs.size])) (fun _ s' => ∃ σ' H', Inv X pins σ' H' s' ∧ Q σ' H') X.xe { s with heap := h'.push { cls := .type "list", data := .seq (its.drop k).toArray }, toks := tk } := by
    intro its rv hz h' tk hk
    have I1 : Inv X pins σ H { s with heap := h', toks := tk } := I.kept (t' := tk) hk
    have hf : H h'.objs.size = none := I1.hok.fresh (Nat.le_refl _)
    have I2 : Inv X pins σ (upd H h'.objs.size (.lst (xs.drop k))) { s with heap := h'.push { cls := .type "list", data := .seq (its.drop k).toArray }, toks := tk } :=
      I1.laid (t' := tk) (a := h'.objs.size) (o := .lst (xs.drop k)) (h' := h'.push { cls := .type "list", data := .seq (its.drop k).toArray }) (fun b u e => Heap.get?_push_of_some _ e) (Nat.le_refl _)
        ⟨by rw [List.length_drop]; omega, its.drop k, 0, rv.drop k, Heap.get?_push_size _ rfl⟩
    rw [hm]
    exact h.run pins _ σ _ _ _ Q I2 ((rv.take k).append (Paired.cons (show L2.RelV (V.ref h'.objs.size) (Value.ref h'.objs.size) from rfl) .nil)) (hw _ hf)
  rcases hq with hq | hq
  · obtain ⟨its, rv, ht, hz⟩ := I.tuple hq
    have e := rv.length
    exact wpAny_bind (wpAny_holding (unpack_star_tuple (I.ok.hd hc) ht (by simp; omega) (by simp; omega) fun h' tk hk => by simpa using fin its rv hz h' tk hk))
  · obtain ⟨its, rv, ht, hz⟩ := I.list hq
    have e := rv.length
    exact wpAny_bind (wpAny_holding (unpack_star_list (I.ok.hd hc) ht.isList (by simp; omega) (by simp; omega) fun h' tk hk => by simpa using fin its rv hz h' tk hk))
end
end Far

set_option Elab.async false
set_option linter.all false
set_option maxRecDepth 100000
set_option maxHeartbeats 4000000
/-! Readings by the evaluator; the checker; expressions. -/
namespace Far
open PySem PySem.Spec PyProof.Rows L2

/-- an error: its class, its dict -/
def XR (K : PySem.W.Frag) (w : World) (mg : Str → Option Value) (F : Hp) (rho : List Addr) (x : Exc) (c : Value) (d : Option Addr) : Prop :=
  mg x.cls = some c ∧ ∃ dx fs, d = some dx ∧ F dx = some (.xd fs) ∧ ∀ f u, x.fs.lookup f = some u → ∃ v, fs.lookup f = some v ∧ CV K w F rho u v

section
variable {K : PySem.W.Frag} {w : World} {mg : Str → Option Value}
/-- what is wanted behind an evaluation -/
def Post {α β : Type} (K : PySem.W.Frag) (w : World) (mg : Str → Option Value) (rel : Hp → Hp → List Addr → α → β → Prop) (F H : Hp) (rho : List Addr) (r : R α) (Q : β → Hp → Prop) (E : XK) : Prop := match r with
  | .ok a S' => ∀ b F' H' rho', Grow F H rho F' H' rho' → St K w F' H' rho' S' → rel F' H' rho' a b → Q b H'
  | .exc x S' => ∀ c d F' H' rho', Grow F H rho F' H' rho' → St K w F' H' rho' S' → XR K w mg F' rho' x c d → E c d H'
  | .bad => False
theorem Post.imp {α β : Type} {rel : Hp → Hp → List Addr → α → β → Prop} {F H : Hp} {rho : List Addr} {r : R α} {Q Q' : β → Hp → Prop} {E : XK} (h : Post K w mg rel F H rho r Q E) (q : ∀ b H', Q b H' → Q' b H') : Post K w mg rel F H rho r Q' E := by
  cases r with
  | ok a S => exact fun b F' H' rho' g st c => q _ _ (h b F' H' rho' g st c)
  | exc x S => exact h
  | bad => exact h
theorem Post.grow {α β : Type} {rel : Hp → Hp → List Addr → α → β → Prop} {F H F1 H1 : Hp} {rho rho1 : List Addr} {r : R α} {Q : β → Hp → Prop} {E : XK} (h : Post K w mg rel F H rho r Q E) (g : Grow F H rho F1 H1 rho1) : Post K w mg rel F1 H1 rho1 r Q E := by
  cases r with
  | ok a S => exact fun b F' H' rho' g' st c => h b F' H' rho' (g.trans g') st c
  | exc x S => exact fun c d F' H' rho' g' st xr => h c d F' H' rho' (g.trans g') st xr
  | bad => exact h
theorem Post.bind {α β γ δ : Type} {rel : Hp → Hp → List Addr → α → β → Prop} {rel2 : Hp → Hp → List Addr → γ → δ → Prop} {F H : Hp} {rho : List Addr} {r : R α} {k : α → Sto → R γ} {Q : δ → Hp → Prop} {E : XK}
    (h : Post K w mg rel2 F H rho (r.bind k) Q E) : Post K w mg rel F H rho r (fun b H1 => ∃ a S1 F1 rho1, Grow F H rho F1 H1 rho1 ∧ St K w F1 H1 rho1 S1 ∧ rel F1 H1 rho1 a b ∧ Post K w mg rel2 F1 H1 rho1 (k a S1) Q E ∧ r = .ok a S1) E := by
  cases r with
  | ok a S => exact fun b F' H' rho' g st c => ⟨a, S, F', rho', g, st, c, Post.grow h g, rfl⟩
  | exc x S => exact h
  | bad => exact h
def relV (K : PySem.W.Frag) (w : World) : Hp → Hp → List Addr → U → V → Prop := fun F _ rho u v => CV K w F rho u v
def relB (K : PySem.W.Frag) (w : World) : Hp → Hp → List Addr → U → V → Prop := fun F H rho u v => CVb K w F H rho u v
def relL (K : PySem.W.Frag) (w : World) : Hp → Hp → List Addr → List U → List V → Prop := fun F _ rho u v => CVs K w F rho u v
def relEq {α : Type} : Hp → Hp → List Addr → α → α → Prop := fun _ _ _ a b => a = b
theorem Post.pp {F H : Hp} {rho : List Addr} {S : Sto} {o : Option PR} {Q : VK} {E : XK} (st : St K w F H rho S) (h : Post K w mg (relV K w) F H rho (retP o S) Q E) : ∃ p, o = some p ∧ PP K w F H rho p Q := by
  cases o with
  | none => exact h.elim
  | some p => exact ⟨p, rfl, PP.get st fun v F' H' g k s c => h v F' H' rho g (st.more g s k) c⟩
theorem Post.val {F H : Hp} {rho : List Addr} {S : Sto} {u : U} {v : V} {Q : VK} {E : XK} (st : St K w F H rho S) (h : Post K w mg (relV K w) F H rho (.ok u S) Q E) (c : CV K w F rho u v) : Q v H := h v F H rho (Grow.refl _ _ _) st c
theorem Post.bool {F H : Hp} {rho : List Addr} {S : Sto} {o : Option Bool} {Q : VK} {E : XK} (st : St K w F H rho S) (h : Post K w mg (relV K w) F H rho (retB o S) Q E) : ∃ k, o = some k ∧ Q (.bl k) H := by
  cases o with
  | none => exact h.elim
  | some k => exact ⟨k, rfl, h.val st (.bl k)⟩
theorem Post.item {F H : Hp} {rho : List Addr} {S : Sto} {o : Option U} {Q : VK} {E : XK} (st : St K w F H rho S) (h : Post K w mg (relV K w) F H rho (retU o S) Q E) : ∃ u, o = some u ∧ ∀ v, CV K w F rho u v → Q v H := by
  cases o with
  | none => exact h.elim
  | some u => exact ⟨u, rfl, fun v c => h.val st c⟩

/-- what stands in a slot -/
def SlOk (K : PySem.W.Frag) (w : World) (F H : Hp) (rho : List Addr) : SL → Option V → Prop
  | .no, _ => True
  | .val u, o => ∃ v, o = some v ∧ CV K w F rho u v
  | .own us, o => ∃ p vs, o = some (.ref p) ∧ F p = none ∧ p ∉ rho ∧ H p = some (.lst vs) ∧ CVs K w F rho us vs
structure SlotsOk (K : PySem.W.Frag) (w : World) (F H : Hp) (rho : List Addr) (σ : Slots) (sv : L2.St) : Prop where
  len : σ.length = sv.length
  at_ : ∀ (i : Nat) (s : SL), σ[i]? = some s → ∃ o, sv[i]? = some o ∧ SlOk K w F H rho s o
  apart : ∀ (i j : Nat) (us ws : List U) (p : Addr), σ[i]? = some (.own us) → σ[j]? = some (.own ws) → sv[i]? = some (some (.ref p)) → sv[j]? = some (some (.ref p)) → i = j
theorem SlOk.grow {F H F' H' : Hp} {rho rho' : List Addr} (g : Grow F H rho F' H' rho') {s : SL} {o : Option V} (h : SlOk K w F H rho s o) : SlOk K w F' H' rho' s o := by
  cases s with
  | no => trivial
  | val u =>
    obtain ⟨v, e, c⟩ := h
    exact ⟨v, e, c.mono g.fex g.rex⟩
  | own us =>
    obtain ⟨p, vs, e, f, n, q, c⟩ := h
    have b : CVb K w F' H' rho' (.lst us) (.ref p) := CVb.grow g (.bor f n q c)
    refine ⟨p, vs, e, ?_, fun z => ?_, g.keep _ _ q n, c.mono g.fex g.rex⟩
    · cases z : F' p with
      | none => rfl
      | some x =>
        rcases g.fnew p x z with y | y
        · rw [f] at y; cases y
        · rw [q] at y; cases y
    · rcases g.rnew _ z with z | z
      · exact n z
      · rw [q] at z; cases z
theorem SlotsOk.grow {F H F' H' : Hp} {rho rho' : List Addr} {σ : Slots} {sv : L2.St} (h : SlotsOk K w F H rho σ sv) (g : Grow F H rho F' H' rho') : SlotsOk K w F' H' rho' σ sv where
  len := h.len
  at_ := fun i s e => by
    obtain ⟨o, e1, ok⟩ := h.at_ i s e
    exact ⟨o, e1, ok.grow g⟩
  apart := h.apart
end

/-! ### readings -/
section
variable (N : Cn) (cf : CF)
def rdE (K : PySem.W.Frag) (w : World) (mg : Str → Option Value) (W : WX) (e : LE) : TE := fun sv H Q => ∃ F rho σ S, St K w F H rho S ∧ SlotsOk K w F H rho σ sv ∧ Post K w mg (relV K w) F H rho (evE N cf σ e S) Q (WE W sv)
def rdB (K : PySem.W.Frag) (w : World) (mg : Str → Option Value) (W : WX) (e : LE) : TE := fun sv H Q => ∃ F rho σ S, St K w F H rho S ∧ SlotsOk K w F H rho σ sv ∧ Post K w mg (relB K w) F H rho (lookB (borOf σ e) (evE N cf σ e S) S) Q (WE W sv)
def rdEs (K : PySem.W.Frag) (w : World) (mg : Str → Option Value) (W : WX) (e : LEs) : TA := fun sv H Q => ∃ F rho σ S, St K w F H rho S ∧ SlotsOk K w F H rho σ sv ∧ Post K w mg (relL K w) F H rho (evEs N cf σ e S) Q (WE W sv)
def rdO (K : PySem.W.Frag) (w : World) (mg : Str → Option Value) (W : WX) (e : LO) : TO := fun sv H Q => ∃ F rho σ S, St K w F H rho S ∧ SlotsOk K w F H rho σ sv ∧ Post K w mg relEq F H rho (evO N cf σ e S) Q (WE W sv)
def rdT (K : PySem.W.Frag) (w : World) (mg : Str → Option Value) (W : WX) (e : LC) : TT := fun sv H Q => ∃ F rho σ S, St K w F H rho S ∧ SlotsOk K w F H rho σ sv ∧ Post K w mg relEq F H rho (evT N cf σ e S) Q (WE W sv)
end

theorem PE.imp {X : Cx} {e : Expr} {t t' : TE} (h : PE X e t) (q : ∀ sv H Q, t' sv H Q → t sv H Q) : PE X e t' := ⟨fun pins s σ H Q I z => h.run pins s σ H Q I (q _ _ _ z)⟩
theorem PA.imp {X : Cx} {e : List Expr} {t t' : TA} (h : PA X e t) (q : ∀ sv H Q, t' sv H Q → t sv H Q) : PA X e t' := ⟨fun pos pins s σ H Q I z => h.run pos pins s σ H Q I (q _ _ _ z)⟩
theorem PT.imp {X : Cx} {e : Expr} {t t' : TT} (h : PT X e t) (q : ∀ sv H Q, t' sv H Q → t sv H Q) : PT X e t' := ⟨fun pins s σ H Q I z => h.run pins s σ H Q I (q _ _ _ z)⟩
theorem PO.imp {X : Cx} {e : Option Expr} {t t' : TO} (h : PO X e t) (q : ∀ sv H Q, t' sv H Q → t sv H Q) : PO X e t' := ⟨fun pins s σ H Q I z => h.run pins s σ H Q I (q _ _ _ z)⟩

/-! ### what is walked -/
/-- an iterator that yields these, as long as what is frozen stays -/
structure Src (K : PySem.W.Frag) (w : World) (F : Hp) (rho : List Addr) (J : It) (us : List U) : Prop where
  go : ∀ (i : Nat) (F' H' : Hp), Same F F' → Same F' H' → i < us.length → J.go i H'
  stop : ∀ (i : Nat) (F' H' : Hp), Same F F' → Same F' H' → us.length ≤ i → J.stop i H'
  yld : ∀ (i : Nat) (u : U) (F' H' : Hp) (rho' : List Addr) (x : V) (H2 : Hp), Same F F' → Same F' H' → Pre rho rho' → us[i]? = some u → J.yld i H' x H2 → ∃ F2, Grow F' H' rho' F2 H2 rho' ∧ Same F2 H2 ∧ Same H' H2 ∧ CV K w F2 rho' u x
theorem src_lst {K : PySem.W.Frag} {w : World} {F : Hp} {rho : List Addr} {a : Addr} {us : List U} {vs : List V} (h : SqL K F a vs) (c : CVs K w F rho us vs) : Src K w F rho (Itl K a) us where
  go := fun i F' H' s1 s2 hi => by
    have hi' : i < vs.length := by rw [← c.length]; exact hi
    exact ⟨vs, vs[i], same_l s2 (same_l s1 h), List.getElem?_eq_getElem hi'⟩
  stop := fun i F' H' s1 s2 hi => ⟨vs, same_l s2 (same_l s1 h), by rw [← c.length]; exact hi⟩
  yld := fun i u F' H' rho' x H2 s1 s2 p e y => by
    obtain ⟨rfl, y⟩ := y
    obtain ⟨v, e1, cv⟩ := c.get e
    have e2 := y vs (same_l s2 (same_l s1 h))
    rw [e1] at e2
    cases e2
    exact ⟨F', Grow.refl _ _ _, s2, Same.refl _, cv.mono s1 p⟩
theorem src_tup {K : PySem.W.Frag} {w : World} {F : Hp} {rho : List Addr} {a : Addr} {us : List U} {vs : List V} (h : SqT K F a vs) (c : CVs K w F rho us vs) : Src K w F rho (Itt K a) us where
  go := fun i F' H' s1 s2 hi => by
    have hi' : i < vs.length := by rw [← c.length]; exact hi
    exact ⟨vs, vs[i], same_t s2 (same_t s1 h), List.getElem?_eq_getElem hi'⟩
  stop := fun i F' H' s1 s2 hi => ⟨vs, same_t s2 (same_t s1 h), by rw [← c.length]; exact hi⟩
  yld := fun i u F' H' rho' x H2 s1 s2 p e y => by
    obtain ⟨rfl, y⟩ := y
    obtain ⟨v, e1, cv⟩ := c.get e
    have e2 := y vs (same_t s2 (same_t s1 h))
    rw [e1] at e2
    cases e2
    exact ⟨F', Grow.refl _ _ _, s2, Same.refl _, cv.mono s1 p⟩
theorem src_rng {K : PySem.W.Frag} {w : World} {F : Hp} {rho : List Addr} (a b : Int) : Src K w F rho (Itr a (b - a).toNat) (rangeU a b) where
  go := fun i F' H' s1 s2 hi => by
    show i < (b - a).toNat
    simpa [rangeU] using hi
  stop := fun i F' H' s1 s2 hi => by
    show (b - a).toNat ≤ i
    simpa [rangeU] using hi
  yld := fun i u F' H' rho' x H2 s1 s2 p e y => by
    obtain ⟨rfl, rfl⟩ := y
    have hi : i < (b - a).toNat := by
      have := (List.getElem?_eq_some_iff.mp e).1
      simpa [rangeU] using this
    have e2 : u = .int (a + (i : Int)) := by
      simp [rangeU, hi] at e
      exact e.symm
    subst e2
    exact ⟨F', Grow.refl _ _ _, s2, Same.refl _, .int _⟩
def relI (K : PySem.W.Frag) (w : World) : Hp → Hp → List Addr → List U → It → Prop := fun F _ rho us J => Src K w F rho J us
def rdI (N : Cn) (cf : CF) (K : PySem.W.Frag) (w : World) (mg : Str → Option Value) (W : WX) (e : LI) : TI := fun sv H Q => ∃ F rho σ S, St K w F H rho S ∧ SlotsOk K w F H rho σ sv ∧ Post K w mg (relI K w) F H rho (evI N cf σ e S) Q (WE W sv)
theorem PI.imp {X : Cx} {tg e : Expr} {t t' : TI} (h : PI X tg e t) (q : ∀ sv H Q, t' sv H Q → t sv H Q) : PI X tg e t' := ⟨fun pins s σ H Q I z => h.run pins s σ H Q I (q _ _ _ z)⟩
def iSeq (K : PySem.W.Frag) (tl : TE) : TI := fun σ H R => tl σ H fun x H1 => ∃ a, x = .ref a ∧ (((∃ xs, SqL K H1 a xs) ∧ R (Itl K a) H1) ∨ ((∃ xs, SqT K H1 a xs) ∧ R (Itt K a) H1))
theorem pi_seq {X : Cx} {tg l : Expr} {tl : TE} (hl : PE X l tl) : PI X tg l (iSeq X.K tl) := by
  refine ⟨fun pins s σ H R I h => ?_⟩
  refine thn (hl.run pins s σ H _ I h) fun v s1 ⟨x, H1, I1, r1, q1⟩ => ?_
  obtain ⟨a, e, q1⟩ := q1
  subst e
  cases r1
  rcases q1 with ⟨⟨xs, hq⟩, q⟩ | ⟨⟨xs, hq⟩, q⟩
  · obtain ⟨its, rv, p, hz⟩ := I1.list hq
    refine wpAny_pyIter_list p.isList ?_
    refine ⟨s1.heap.objs.size, [s1.heap.objs.size], _, _, H1, rfl, I1.kept (t' := s1.toks) fun b o e => Heap.get?_push_of_some _ e, turn_list a _, ⟨_, Heap.get?_push_size _ rfl, rfl, rfl⟩, fun b hb => ?_, q⟩
    have e : b = s1.heap.objs.size := by simpa using hb
    subst e
    exact I1.fpOk (Nat.le_refl _) (I1.hok.fresh (Nat.le_refl _))
  · obtain ⟨its, rv, p, hz⟩ := I1.tuple hq
    refine wpAny_pyIter_tuple (show s1.heap.IsTuple a its.toArray from p) ?_
    refine ⟨s1.heap.objs.size, [s1.heap.objs.size], _, _, H1, rfl, I1.kept (t' := s1.toks) fun b o e => Heap.get?_push_of_some _ e, turn_tuple a _, ⟨_, Heap.get?_push_size _ rfl, rfl, rfl⟩, fun b hb => ?_, q⟩
    have e : b = s1.heap.objs.size := by simpa using hb
    subst e
    exact I1.fpOk (Nat.le_refl _) (I1.hok.fresh (Nat.le_refl _))

/-! ### the checker -/
def visB (ns : List Str) (sc : Scope) (i : Nat) (x : Str) : Bool := ns[i]? == some x && ((sc.names.lookup x == some .local || sc.names.lookup x == some .cell || sc.names.lookup x == some .free) && (!(x == ("__debug__" : Str)) && !(x == ("__classdict__" : Str))))
def glB (sc : Scope) (x : Str) : Bool := sc.names.lookup x == some .globalImplicit && (!(x == ("__debug__" : Str)) && !(x == ("__name__" : Str)))
def bopOk : Bop → Operator → Bool
  | .add, .Add => true
  | .sub, .Sub => true
  | .mul, .Mult => true
  | .fdiv, .FloorDiv => true
  | .mod, .Mod => true
  | .pow, .Pow => true
  | _, _ => false
def copOk : Cop → CmpOp → Bool
  | .eq, .Eq => true
  | .ne, .NotEq => true
  | .lt, .Lt => true
  | .le, .LtE => true
  | .gt, .Gt => true
  | .ge, .GtE => true
  | .isin, .In => true
  | .notin, .NotIn => true
  | .isN, .Is => true
  | .notN, .IsNot => true
  | _, _ => false
def starred : Expr → Bool
  | .Starred .. => true
  | _ => false
def sliced : Expr → Bool
  | .Slice .. => true
  | _ => false
/-- whose truth is its value's -/
def plainT : Expr → Bool
  | .UnaryOp .Not _ _ => false
  | .BoolOp .. => false
  | .IfExp .. => false
  | .Compare .. => false
  | _ => true
def fnName : Fn → Str
  | .len => "len"
  | .all => "all"
  | .any => "any"
  | .tuple => "tuple"
  | .list => "list"
  | .abs => "abs"
def tyName : Ty → Str
  | .int => "int"
  | .bool => "bool"
  | .str => "str"
  | .tuple => "tuple"
  | .list => "list"
  | .dict => "dict"
def setLit : Expr → Bool
  | .Set .. => true
  | _ => false
/-- where a checker stands: the slots' names, the scope, which names have cells of their own -/
structure Ck where
  ns : List Str
  sc : Scope
  fn : Str → Bool
def Ck.vis (k : Ck) (i : Nat) (x : Str) : Bool := visB k.ns k.sc i x
def Ck.sto (k : Ck) (i : Nat) (x : Str) : Bool := k.ns[i]? == some x && ((k.sc.names.lookup x == some .local) || (k.sc.names.lookup x == some .cell && k.fn x))
/-- names, then one starred -/
def chkSt (k : Ck) : List Nat → Nat → List Expr → Bool
  | [], j, [.Starred (.Name x _) _] => k.sto j x
  | i :: is, j, .Name x _ :: es => k.sto i x && chkSt k is j es
  | _, _, _ => false
mutual
def chkT (k : Ck) : LT → Expr → Bool
  | .nm i, .Name x _ => k.sto i x
  | .tp ts, .Tuple es _ _ => chkTs k ts es
  | .st is j, .Tuple es _ _ => chkSt k is j es
  | _, _ => false
def chkTs (k : Ck) : List LT → List Expr → Bool
  | [], [] => true
  | t :: ts, e :: es => chkT k t e && (!starred e && chkTs k ts es)
  | _, _ => false
end
def keyOk : Key → Expr → Bool
  | .inl i, .Constant (.int j) _ _ => i == j
  | .inr x, .Constant (.str y) _ _ => x == y
  | _, _ => false
def keysOk : List Key → List (Option Expr) → Bool
  | [], [] => true
  | k :: ks, some e :: es => keyOk k e && keysOk ks es
  | _, _ => false
def tysOk (sc : Scope) : List Ty → List Expr → Bool
  | [], [] => true
  | t :: ts, .Name x _ :: es => x == tyName t && (glB sc x && tysOk sc ts es)
  | _, _ => false
/-- the block of a comprehension -/
def Ck.blk (k : Ck) (scope : Scope) : Ck := ⟨k.ns, relS scope k.sc, fun x => scope.names.lookup x == some .cell⟩
def ownOk (k : Ck) (own : List Nat) (scope : Scope) : Bool := blkC k.ns k.sc scope (own.map fun i => (k.ns.getD i Str.empty, i))
mutual
def chkE (k : Ck) : LE → Expr → Bool
  | .bad, _ => true
  | .c u, e => (match u, e with
    | .int i, .Constant (.int j) _ _ => i == j
    | .bl b, .Constant (.bool d) _ _ => b == d
    | .str x, .Constant (.str y) _ _ => x == y
    | .non, .Constant .none _ _ => true
    | _, _ => false)
  | .v i, e => (match e with
    | .Name x _ => k.vis i x
    | _ => false)
  | .b i, e => (match e with
    | .Name x _ => k.vis i x
    | _ => false)
  | .xf _ _, _ => false
  | .g x, e => (match e with
    | .Name y _ => x == y && glB k.sc x
    | _ => false)
  | .op o a b, e => (match e with
    | .BinOp l p r _ => bopOk o p && (chkE k a l && chkE k b r)
    | _ => false)
  | .neg a, e => (match e with
    | .UnaryOp .USub x _ => chkE k a x
    | _ => false)
  | .cmp o a b, e => (match e with
    | .Compare l [p] [r] _ => copOk o p && (!behindInMarks p r && (chkE k a l && chkE k b r))
    | _ => false)
  | .chn o o' a b c, e => (match e with
    | .Compare l [p, p'] [m, r] _ => copOk o p && (copOk o' p' && (!lastMarks [p, p'] [m, r] && (chkE k a l && (chkE k b m && chkE k c r))))
    | _ => false)
  | .not a, e => (match e with
    | .UnaryOp .Not x _ => chkE k a x
    | _ => false)
  | .and a b, e => (match e with
    | .BoolOp .And [l, r] _ => chkE k a l && chkE k b r
    | .BoolOp .And (l :: r :: r2 :: rest) p => chkE k a l && chkE k b (.BoolOp .And (r :: r2 :: rest) p)
    | _ => false)
  | .or a b, e => (match e with
    | .BoolOp .Or [l, r] _ => chkE k a l && chkE k b r
    | .BoolOp .Or (l :: r :: r2 :: rest) p => chkE k a l && chkE k b (.BoolOp .Or (r :: r2 :: rest) p)
    | _ => false)
  | .ite t a b, e => (match e with
    | .IfExp c x y _ => chkC k t c && (chkE k a x && chkE k b y)
    | _ => false)
  | .tup es, e => (match e with
    | .Tuple xs _ _ => chkEs k es xs
    | _ => false)
  | .lst es, e => (match e with
    | .List xs _ => chkEs k es xs
    | _ => false)
  | .sto es, e => (match e with
    | .List xs _ => chkEs k es xs
    | _ => false)
  | .dct ks es, e => (match e with
    | .Dict keys vals _ => keysOk ks keys && (decide (keys.length = vals.length) && (!keys.isEmpty && (decide (keys.length ≤ 15) && chkEs k es vals)))
    | _ => false)
  | .sub a i, e => (match e with
    | .Subscript x y _ => !sliced y && (chkE k a x && chkE k i y)
    | _ => false)
  | .slc a lo hi, e => (match e with
    | .Subscript x (.Slice l h none _) _ => chkE k a x && (chkO k lo l && chkO k hi h)
    | _ => false)
  | .fn f a, e => (match e with
    | .Call (.Name x _) [y] [] _ => x == fnName f && (glB k.sc x && (!starred y && chkE k a y))
    | _ => false)
  | .isi a t, e => (match e with
    | .Call (.Name x _) [y, .Name z _] [] _ => x == ("isinstance" : Str) && (glB k.sc x && (!starred y && (z == tyName t && (glB k.sc z && chkE k a y))))
    | _ => false)
  | .isiT a ts, e => (match e with
    | .Call (.Name x _) [y, .Tuple zs _ _] [] _ => x == ("isinstance" : Str) && (glB k.sc x && (!starred y && (tysOk k.sc ts zs && chkE k a y)))
    | _ => false)
  | .call f es, e => (match e with
    | .Call (.Name x _) ys [] _ => x == f && (glB k.sc x && (!ys.isEmpty && chkEs k es ys))
    | _ => false)
  | .lc own tg it cs a, e => (match e with
    | .ListComp elt [⟨t, iter, ifs, 0⟩] scope _ => ownOk k own scope && (!setLit iter && (tg.slots.all own.contains && (chkT (k.blk scope) tg t && (chkI k it iter && (chkK (k.blk scope) cs ifs && chkE (k.blk scope) a elt)))))
    | _ => false)
def chkEs (k : Ck) : LEs → List Expr → Bool
  | .nil, [] => true
  | .cons e es, x :: xs => !starred x && (chkE k e x && chkEs k es xs)
  | _, _ => false
def chkO (k : Ck) : LO → Option Expr → Bool
  | .non, none => true
  | .som e, some x => chkE k e x
  | _, _ => false
def chkC (k : Ck) : LC → Expr → Bool
  | .and a b, e => (match e with
    | .BoolOp .And [l, r] _ => chkC k a l && chkC k b r
    | .BoolOp .And (l :: r :: r2 :: rest) p => chkC k a l && chkC k b (.BoolOp .And (r :: r2 :: rest) p)
    | _ => false)
  | .or a b, e => (match e with
    | .BoolOp .Or [l, r] _ => chkC k a l && chkC k b r
    | .BoolOp .Or (l :: r :: r2 :: rest) p => chkC k a l && chkC k b (.BoolOp .Or (r :: r2 :: rest) p)
    | _ => false)
  | .not a, e => (match e with
    | .UnaryOp .Not x _ => chkC k a x
    | _ => false)
  | .cmp o a b, e => (match e with
    | .Compare l [p] [r] _ => copOk o p && (!behindInMarks p r && (chkE k a l && chkE k b r))
    | _ => false)
  | .chn o o' a b c, e => (match e with
    | .Compare l [p, p'] [m, r] _ => copOk o p && (copOk o' p' && (!lastMarks [p, p'] [m, r] && (chkE k a l && (chkE k b m && chkE k c r))))
    | _ => false)
  | .e a, e => plainT e && chkE k a e
def chkK (k : Ck) : LK → List Expr → Bool
  | .non, [] => true
  | .som c, [x] => chkC k c x
  | _, _ => false
def chkI (k : Ck) : LI → Expr → Bool
  | .seq a, e => chkE k a e
  | .rng1 b, e => (match e with
    | .Call (.Name x _) [y] [] _ => x == ("range" : Str) && (glB k.sc x && (!starred y && chkE k b y))
    | _ => false)
  | .rng2 a b, e => (match e with
    | .Call (.Name x _) [y, z] [] _ => x == ("range" : Str) && (glB k.sc x && (!starred y && (!starred z && (chkE k a y && chkE k b z))))
    | _ => false)
end
end Far

set_option Elab.async false
set_option linter.all false
set_option maxRecDepth 100000
set_option maxHeartbeats 4000000
/-! Expressions keep what the evaluator says. -/
namespace Far
open PySem PySem.Spec PyProof.Rows L2

/-- a def's promise by the evaluator -/
def spOf (K : PySem.W.Frag) (w : World) (mg : Str → Option Value) (cf : CF) (f : Str) (ps : List Str) : Sp := fun vs H Q E => ∃ F rho S us, St K w F H rho S ∧ CVs K w F rho us vs ∧ vs.length = ps.length ∧ Post K w mg (relV K w) F H rho (cf f us S) Q E
def CallsOk (N : Cn) (cf : CF) (X : Cx) (n : Nat) : Prop := ∀ f, N.has f = true → ∃ a fd ps, X.mg f = some (.ref a) ∧ PySem.W.keepIn X.K (.ref a) = true ∧
  FnOk X.prog X.w X.K X.mg X.base (L2.CX X.prog X.w) n a fd ps (spOf X.K X.w X.mg cf f ps) ∧ Binds X.K fd ps [] ∧ ∀ us S, cf f us S ≠ .bad → us.length = ps.length
def bltNames : List Str := ["len", "all", "any", "tuple", "list", "abs", "isinstance", "int", "bool", "str", "dict", "range"]
structure XOk (N : Cn) (cf : CF) (k : Ck) (X : Cx) (W : WX) : Prop where
  ns : X.N = k.ns
  sc : X.env.scope = k.sc
  fn : ∀ x, k.fn x = true → X.fn x = true
  nd : X.N.Nodup
  calm : X.calm = true
  room : X.A.units + 64 < cLine
  con : ∀ x u, N.g x = some u → ∃ v z, X.mg x = some z ∧ RelV v z ∧ CV X.K X.w (fun _ => none) [] u v
  free : ∀ x ∈ bltNames, X.mg x = none
  takes : Takes X W
  calls : ∃ n, Room n X.A ∧ CallsOk N cf X n

section
variable {N : Cn} {cf : CF} {k : Ck} {X : Cx} {W : WX}
theorem ba {a b : Bool} (h : (a && b) = true) : a = true ∧ b = true := Bool.and_eq_true_iff.mp h
theorem XOk.vis (o : XOk N cf k X W) {i : Nat} {x : Str} (h : k.vis i x = true) : X.N[i]? = some x ∧ Vis X.env.scope x ∧ (x == ("__debug__" : Str)) = false ∧ (x == ("__classdict__" : Str)) = false := by
  unfold Ck.vis visB at h
  obtain ⟨h1, h2⟩ := ba h
  obtain ⟨h3, h4⟩ := ba h2
  obtain ⟨h5, h6⟩ := ba h4
  rw [o.ns, o.sc]
  refine ⟨by simpa using h1, ?_, by simpa using h5, by simpa using h6⟩
  simp only [Bool.or_eq_true, beq_iff_eq] at h3
  rcases h3 with (h3 | h3) | h3
  · exact .inl h3
  · exact .inr (.inl h3)
  · exact .inr (.inr h3)
theorem XOk.gl (o : XOk N cf k X W) {x : Str} (h : glB k.sc x = true) : Gl X x ∧ (x == ("__debug__" : Str)) = false ∧ x ≠ "__name__" := by
  unfold glB at h
  obtain ⟨h1, h2⟩ := ba h
  obtain ⟨h3, h4⟩ := ba h2
  refine ⟨?_, by simpa using h3, by simpa using h4⟩
  show X.env.scope.names.lookup x = _
  rw [o.sc]
  simpa using h1

/-! ### single expressions -/
theorem e_var (o : XOk N cf k X W) {i : Nat} {x : Str} {p : Pos} (h : k.vis i x = true) : PE X (.Name x p) (rdE N cf X.K X.w X.mg W (.v i)) := by
  obtain ⟨h1, h2, h3, h4⟩ := o.vis h
  refine PE.imp (pe_var h1 h2 h3 h4) fun sv H Q q => ?_
  obtain ⟨F, rho, σ, S, st, sl, q⟩ := q
  simp only [evE] at q
  cases e : σ[i]? with
  | none => rw [e] at q; exact q.elim
  | some s =>
    rw [e] at q
    cases s with
    | val u =>
      obtain ⟨o, e1, v, rfl, c⟩ := sl.at_ i _ e
      exact ⟨v, e1, q.val st c⟩
    | no => exact q.elim
    | own us => exact q.elim
theorem b_var (o : XOk N cf k X W) {i : Nat} {x : Str} {p : Pos} (h : k.vis i x = true) : PE X (.Name x p) (rdB N cf X.K X.w X.mg W (.b i)) := by
  obtain ⟨h1, h2, h3, h4⟩ := o.vis h
  refine PE.imp (pe_var h1 h2 h3 h4) fun sv H Q q => ?_
  obtain ⟨F, rho, σ, S, st, sl, q⟩ := q
  simp only [borOf] at q
  cases e : σ[i]? with
  | none => rw [e] at q; exact q.elim
  | some s =>
    rw [e] at q
    cases s with
    | own us =>
      obtain ⟨o, e1, p, vs, rfl, f, n, hp, c⟩ := sl.at_ i _ e
      exact ⟨.ref p, e1, q _ F H rho (Grow.refl _ _ _) st (.bor f n hp c)⟩
    | no => exact q.elim
    | val u => exact q.elim
theorem e_g (o : XOk N cf k X W) {x : Str} {p : Pos} (h : glB k.sc x = true) : PE X (.Name x p) (rdE N cf X.K X.w X.mg W (.g x)) := by
  obtain ⟨h1, h2, h3⟩ := o.gl h
  cases e : N.g x with
  | none =>
    refine ⟨fun pins s σ H Q I q => ?_⟩
    obtain ⟨F, rho, σ, S, st, sl, q⟩ := q
    simp only [evE, e, retU] at q
    exact q.elim
  | some u =>
    obtain ⟨v, z, m, r, c⟩ := o.con x u e
    refine PE.imp (pe_glob h1 m r h2) fun sv H Q q => ?_
    obtain ⟨F, rho, σ, S, st, sl, q⟩ := q
    simp only [evE, e, retU] at q
    exact q.val st (c.mono (fun _ _ h => by cases h) ⟨rho, by simp⟩)
theorem e_b {e : Expr} {le : LE} (h : PE X e (rdE N cf X.K X.w X.mg W le)) (hb : ∀ σ, borOf σ le = none) : PE X e (rdB N cf X.K X.w X.mg W le) := by
  refine PE.imp h fun sv H Q q => ?_
  obtain ⟨F, rho, σ, S, st, sl, q⟩ := q
  rw [hb σ] at q
  refine ⟨F, rho, σ, S, st, sl, ?_⟩
  have q' : Post X.K X.w X.mg (relB X.K X.w) F H rho (evE N cf σ le S) Q (WE W sv) := q
  revert q'
  cases evE N cf σ le S with
  | ok u S' => exact fun q' v F' H' rho' g st' c => q' v F' H' rho' g st' (.of c)
  | exc x S' => exact fun q' => q'
  | bad => exact fun q' => q'
theorem e_op {o : Bop} {op : Operator} {a b : LE} {l r : Expr} {p : Pos} (ho : bopOk o op = true) (ha : PE X l (rdB N cf X.K X.w X.mg W a)) (hb : PE X r (rdB N cf X.K X.w X.mg W b)) : PE X (.BinOp l op r p) (rdE N cf X.K X.w X.mg W (.op o a b)) := by
  have e : op = bopA o := by cases o <;> cases op <;> first | rfl | cases ho
  subst e
  refine PE.imp (pe_op (opr_bop o) ha hb) fun sv H Q q => ?_
  obtain ⟨F, rho, σ, S, st, sl, q⟩ := q
  simp only [evE] at q
  refine ⟨F, rho, σ, S, st, sl, (Post.bind q).imp fun x H1 ⟨u, S1, F1, rho1, g1, st1, c1, q1, _⟩ => ?_⟩
  refine ⟨F1, rho1, σ, S1, st1, sl.grow g1, (Post.bind q1).imp fun y H2 ⟨u2, S2, F2, rho2, g2, st2, c2, q2, _⟩ => ?_⟩
  obtain ⟨pr, e, pp⟩ := q2.pp st2
  exact ⟨F2, rho2, S2, u, u2, pr, st2, CVb.grow g2 c1, c2, e, pp⟩
theorem e_neg {a : LE} {x : Expr} {p : Pos} (ha : PE X x (rdE N cf X.K X.w X.mg W a)) : PE X (.UnaryOp .USub x p) (rdE N cf X.K X.w X.mg W (.neg a)) := by
  refine PE.imp (pe_un un_neg ha) fun sv H Q q => ?_
  obtain ⟨F, rho, σ, S, st, sl, q⟩ := q
  simp only [evE] at q
  refine ⟨F, rho, σ, S, st, sl, (Post.bind q).imp fun x H1 ⟨u, S1, F1, rho1, g1, st1, c1, q1, _⟩ => ?_⟩
  cases u with
  | int i => cases c1; exact ⟨i, rfl, q1.val st1 (.int _)⟩
  | _ => exact q1.elim
theorem e_cmp (ok : XOk N cf k X W) {o : Cop} {op : CmpOp} {a b : LE} {l r : Expr} {p : Pos} (ho : copOk o op = true) (hm : behindInMarks op r = false) (ha : PE X l (rdB N cf X.K X.w X.mg W a)) (hb : PE X r (rdB N cf X.K X.w X.mg W b)) :
    PE X (.Compare l [op] [r] p) (rdE N cf X.K X.w X.mg W (.cmp o a b)) ∧ PT X (.Compare l [op] [r] p) (rdT N cf X.K X.w X.mg W (.cmp o a b)) := by
  have e : op = copA o := by cases o <;> cases op <;> first | rfl | cases ho
  subst e
  have key : ∀ sv H (Q : VK), rdE N cf X.K X.w X.mg W (.cmp o a b) sv H Q → tOp (rCop X.K X.w o) (rdB N cf X.K X.w X.mg W a) (rdB N cf X.K X.w X.mg W b) sv H Q := fun sv H Q q => by
    obtain ⟨F, rho, σ, S, st, sl, q⟩ := q
    simp only [evE] at q
    refine ⟨F, rho, σ, S, st, sl, (Post.bind q).imp fun x H1 ⟨u, S1, F1, rho1, g1, st1, c1, q1, _⟩ => ?_⟩
    refine ⟨F1, rho1, σ, S1, st1, sl.grow g1, (Post.bind q1).imp fun y H2 ⟨u2, S2, F2, rho2, g2, st2, c2, q2, _⟩ => ?_⟩
    obtain ⟨kk, e, pp⟩ := q2.bool st2
    exact ⟨F2, rho2, S2, u, u2, kk, st2, CVb.grow g2 c1, c2, e, pp⟩
  refine ⟨PE.imp (pe_cmpR (opr_cop ok.room o) ha hb hm) key, PT.imp (pt_cmpR (opr_cop ok.room o) ha hb hm) fun sv H Q q => ?_⟩
  obtain ⟨F, rho, σ, S, st, sl, q⟩ := q
  simp only [evT] at q
  refine ⟨F, rho, σ, S, st, sl, (Post.bind q).imp fun x H1 ⟨u, S1, F1, rho1, g1, st1, c1, q1, _⟩ => ?_⟩
  refine ⟨F1, rho1, σ, S1, st1, sl.grow g1, (Post.bind q1).imp fun y H2 ⟨u2, S2, F2, rho2, g2, st2, c2, q2, _⟩ => ?_⟩
  cases e : cop o S2 u u2 with
  | none => rw [e] at q2; exact q2.elim
  | some kk =>
    rw [e] at q2
    exact ⟨F2, rho2, S2, u, u2, kk, st2, CVb.grow g2 c1, c2, e, kk, rfl, q2 kk F2 H2 rho2 (Grow.refl _ _ _) st2 rfl⟩
theorem e_chn (ok : XOk N cf k X W) {o o' : Cop} {op op' : CmpOp} {a b c : LE} {l m r : Expr} {p : Pos} (ho : copOk o op = true) (ho' : copOk o' op' = true) (hm : lastMarks [op, op'] [m, r] = false) (ha : PE X l (rdE N cf X.K X.w X.mg W a)) (hb : PE X m (rdE N cf X.K X.w X.mg W b)) (hc : PE X r (rdE N cf X.K X.w X.mg W c)) :
    PE X (.Compare l [op, op'] [m, r] p) (rdE N cf X.K X.w X.mg W (.chn o o' a b c)) ∧ PT X (.Compare l [op, op'] [m, r] p) (rdT N cf X.K X.w X.mg W (.chn o o' a b c)) := by
  have e : op = copA o := by cases o <;> cases op <;> first | rfl | cases ho
  subst e
  have e : op' = copA o' := by cases o' <;> cases op' <;> first | rfl | cases ho'
  subst e
  have key : ∀ sv H (Q : VK), rdE N cf X.K X.w X.mg W (.chn o o' a b c) sv H Q → tChain (rCop X.K X.w o) (rCop X.K X.w o') (rdE N cf X.K X.w X.mg W a) (rdE N cf X.K X.w X.mg W b) (rdE N cf X.K X.w X.mg W c) sv H Q := fun sv H Q q => by
    obtain ⟨F, rho, σ, S, st, sl, q⟩ := q
    simp only [evE] at q
    refine ⟨F, rho, σ, S, st, sl, (Post.bind q).imp fun x H1 ⟨u, S1, F1, rho1, g1, st1, c1, q1, _⟩ => ?_⟩
    refine ⟨F1, rho1, σ, S1, st1, sl.grow g1, (Post.bind q1).imp fun y H2 ⟨u2, S2, F2, rho2, g2, st2, c2, q2, _⟩ => ?_⟩
    cases e : cop o S2 u u2 with
    | none => rw [e] at q2; exact q2.elim
    | some kk =>
      rw [e] at q2
      refine ⟨F2, rho2, S2, u, u2, kk, st2, CVb.grow g2 (.of c1), .of c2, e, kk, rfl, ?_⟩
      cases kk with
      | false => exact ite_ff (q2.val st2 (.bl _))
      | true =>
        refine ite_tt ⟨F2, rho2, σ, S2, st2, (sl.grow g1).grow g2, (Post.bind q2).imp fun z H3 ⟨u3, S3, F3, rho3, g3, st3, c3, q3, _⟩ => ?_⟩
        obtain ⟨kk, e, pp⟩ := q3.bool st3
        exact ⟨F3, rho3, S3, u2, u3, kk, st3, CVb.grow g3 (.of c2), .of c3, e, pp⟩
  refine ⟨PE.imp (pe_chain (opr_cop ok.room o) (opr_cop ok.room o') ha hb hc hm) key, PT.imp (pt_chain (opr_cop ok.room o) (opr_cop ok.room o') ha hb hc hm) fun sv H Q q => ?_⟩
  obtain ⟨F, rho, σ, S, st, sl, q⟩ := q
  simp only [evT] at q
  refine ⟨F, rho, σ, S, st, sl, (Post.bind q).imp fun x H1 ⟨u, S1, F1, rho1, g1, st1, c1, q1, _⟩ => ?_⟩
  refine ⟨F1, rho1, σ, S1, st1, sl.grow g1, (Post.bind q1).imp fun y H2 ⟨u2, S2, F2, rho2, g2, st2, c2, q2, _⟩ => ?_⟩
  cases e : cop o S2 u u2 with
  | none => rw [e] at q2; exact q2.elim
  | some kk =>
    rw [e] at q2
    refine ⟨F2, rho2, S2, u, u2, kk, st2, CVb.grow g2 (.of c1), .of c2, e, kk, rfl, ?_⟩
    cases kk with
    | false => exact ite_ff ⟨false, rfl, q2 false F2 H2 rho2 (Grow.refl _ _ _) st2 rfl⟩
    | true =>
      refine ite_tt ⟨F2, rho2, σ, S2, st2, (sl.grow g1).grow g2, (Post.bind q2).imp fun z H3 ⟨u3, S3, F3, rho3, g3, st3, c3, q3, _⟩ => ?_⟩
      cases e : cop o' S3 u2 u3 with
      | none => rw [e] at q3; exact q3.elim
      | some kk =>
        rw [e] at q3
        exact ⟨F3, rho3, S3, u2, u3, kk, st3, CVb.grow g3 (.of c2), .of c3, e, kk, rfl, q3 kk F3 H3 rho3 (Grow.refl _ _ _) st3 rfl⟩
/-- a test by truth -/
theorem t_plain {e : LE} {x : Expr} (hp : plainT x = true) (h : PE X x (rdE N cf X.K X.w X.mg W e)) : PT X x (rdT N cf X.K X.w X.mg W (.e e)) := by
  refine PT.imp (pt_truth h fun whole => ?_) fun sv H Q q => ?_
  · cases x <;> first
      | rfl
      | (rename_i o _ _; cases o <;> first | rfl | cases hp)
      | cases hp
  · obtain ⟨F, rho, σ, S, st, sl, q⟩ := q
    simp only [evT] at q
    refine ⟨F, rho, σ, S, st, sl, (Post.bind q).imp fun x H1 ⟨u, S1, F1, rho1, g1, st1, c1, q1, _⟩ => ?_⟩
    cases e : truth S1 u with
    | none => rw [e] at q1; exact q1.elim
    | some kk =>
      rw [e] at q1
      exact ⟨kk, truth_of st1 c1 e, q1 kk F1 H1 rho1 (Grow.refl _ _ _) st1 rfl⟩
theorem t_not {a : LC} {x : Expr} {p : Pos} (h : PT X x (rdT N cf X.K X.w X.mg W a)) : PT X (.UnaryOp .Not x p) (rdT N cf X.K X.w X.mg W (.not a)) := by
  refine PT.imp (pt_not h) fun sv H Q q => ?_
  obtain ⟨F, rho, σ, S, st, sl, q⟩ := q
  simp only [evT] at q
  refine ⟨F, rho, σ, S, st, sl, (Post.bind q).imp fun x H1 ⟨u, S1, F1, rho1, g1, st1, c1, q1, _⟩ => ?_⟩
  cases c1
  exact q1 _ F1 H1 rho1 (Grow.refl _ _ _) st1 rfl
theorem tand {a b : LC} {sv : L2.St} {H : Hp} {Q : Bool → Hp → Prop} (q : rdT N cf X.K X.w X.mg W (.and a b) sv H Q) : tAnd (rdT N cf X.K X.w X.mg W a) (rdT N cf X.K X.w X.mg W b) sv H Q := by
  obtain ⟨F, rho, σ, S, st, sl, q⟩ := q
  simp only [evT] at q
  refine ⟨F, rho, σ, S, st, sl, (Post.bind q).imp fun x H1 ⟨u, S1, F1, rho1, g1, st1, c1, q1, _⟩ => ?_⟩
  cases c1
  cases x with
  | true => exact ite_tt ⟨F1, rho1, σ, S1, st1, sl.grow g1, q1⟩
  | false => exact ite_ff (q1 _ F1 H1 rho1 (Grow.refl _ _ _) st1 rfl)
theorem tor {a b : LC} {sv : L2.St} {H : Hp} {Q : Bool → Hp → Prop} (q : rdT N cf X.K X.w X.mg W (.or a b) sv H Q) : tOr (rdT N cf X.K X.w X.mg W a) (rdT N cf X.K X.w X.mg W b) sv H Q := by
  obtain ⟨F, rho, σ, S, st, sl, q⟩ := q
  simp only [evT] at q
  refine ⟨F, rho, σ, S, st, sl, (Post.bind q).imp fun x H1 ⟨u, S1, F1, rho1, g1, st1, c1, q1, _⟩ => ?_⟩
  cases c1
  cases x with
  | true => exact ite_tt (q1 _ F1 H1 rho1 (Grow.refl _ _ _) st1 rfl)
  | false => exact ite_ff ⟨F1, rho1, σ, S1, st1, sl.grow g1, q1⟩
end
end Far

set_option Elab.async false
set_option linter.all false
set_option maxRecDepth 100000
set_option maxHeartbeats 4000000
/-! Expressions, further. -/
namespace Far
open PySem PySem.Spec PyProof.Rows L2
section
variable {N : Cn} {cf : CF} {k : Ck} {X : Cx} {W : WX}
theorem e_not {a : LE} {x : Expr} {p : Pos} (ha : PE X x (rdE N cf X.K X.w X.mg W a)) : PE X (.UnaryOp .Not x p) (rdE N cf X.K X.w X.mg W (.not a)) := by
  refine PE.imp (pe_notT ha) fun sv H Q q => ?_
  obtain ⟨F, rho, σ, S, st, sl, q⟩ := q
  simp only [evE] at q
  refine ⟨F, rho, σ, S, st, sl, (Post.bind q).imp fun x H1 ⟨u, S1, F1, rho1, g1, st1, c1, q1, _⟩ => ?_⟩
  cases e : truth S1 u with
  | none => rw [e] at q1; exact q1.elim
  | some kk =>
    rw [e] at q1
    exact ⟨kk, truth_of st1 c1 e, q1.val st1 (.bl _)⟩
theorem vand {a b : LE} {sv : L2.St} {H : Hp} {Q : VK} (q : rdE N cf X.K X.w X.mg W (.and a b) sv H Q) : tAndV (rdE N cf X.K X.w X.mg W a) (rdE N cf X.K X.w X.mg W b) sv H Q := by
  obtain ⟨F, rho, σ, S, st, sl, q⟩ := q
  simp only [evE] at q
  refine ⟨F, rho, σ, S, st, sl, (Post.bind q).imp fun x H1 ⟨u, S1, F1, rho1, g1, st1, c1, q1, _⟩ => ?_⟩
  cases u with
  | bl b =>
    cases c1
    refine ⟨b, rfl, ?_⟩
    cases b with
    | true => exact ite_tt ⟨F1, rho1, σ, S1, st1, sl.grow g1, q1⟩
    | false => exact ite_ff (q1.val st1 (.bl _))
  | _ => exact q1.elim
theorem vor {a b : LE} {sv : L2.St} {H : Hp} {Q : VK} (q : rdE N cf X.K X.w X.mg W (.or a b) sv H Q) : tOrV (rdE N cf X.K X.w X.mg W a) (rdE N cf X.K X.w X.mg W b) sv H Q := by
  obtain ⟨F, rho, σ, S, st, sl, q⟩ := q
  simp only [evE] at q
  refine ⟨F, rho, σ, S, st, sl, (Post.bind q).imp fun x H1 ⟨u, S1, F1, rho1, g1, st1, c1, q1, _⟩ => ?_⟩
  cases u with
  | bl b =>
    cases c1
    refine ⟨b, rfl, ?_⟩
    cases b with
    | true => exact ite_tt (q1.val st1 (.bl _))
    | false => exact ite_ff ⟨F1, rho1, σ, S1, st1, sl.grow g1, q1⟩
  | _ => exact q1.elim
theorem e_ite {t : LC} {a b : LE} {c x y : Expr} {p : Pos} (hc : PT X c (rdT N cf X.K X.w X.mg W t)) (ha : PE X x (rdE N cf X.K X.w X.mg W a)) (hb : PE X y (rdE N cf X.K X.w X.mg W b)) : PE X (.IfExp c x y p) (rdE N cf X.K X.w X.mg W (.ite t a b)) := by
  refine PE.imp (pe_ifExp hc ha hb) fun sv H Q q => ?_
  obtain ⟨F, rho, σ, S, st, sl, q⟩ := q
  simp only [evE] at q
  refine ⟨F, rho, σ, S, st, sl, (Post.bind q).imp fun x H1 ⟨u, S1, F1, rho1, g1, st1, c1, q1, _⟩ => ?_⟩
  cases c1
  cases x with
  | true => exact ite_tt ⟨F1, rho1, σ, S1, st1, sl.grow g1, q1⟩
  | false => exact ite_ff ⟨F1, rho1, σ, S1, st1, sl.grow g1, q1⟩
/-! ### lists of expressions -/
theorem star_cons {e : Expr} (h : starred e = false) (es : List Expr) (env : Env) : starEach (e :: es) env = (false, eval e env) :: starEach es env := by
  cases e <;> first | rfl | cases h
theorem es_nil : PA X [] (rdEs N cf X.K X.w X.mg W .nil) := PA.imp pa_nil fun sv H Q q => by
  obtain ⟨F, rho, σ, S, st, sl, q⟩ := q
  exact q [] F H rho (Grow.refl _ _ _) st .nil
theorem es_cons {e : LE} {es : LEs} {x : Expr} {xs : List Expr} (hs : starred x = false) (h : PE X x (rdE N cf X.K X.w X.mg W e)) (hr : PA X xs (rdEs N cf X.K X.w X.mg W es)) : PA X (x :: xs) (rdEs N cf X.K X.w X.mg W (.cons e es)) := by
  refine PA.imp (pa_cons h hr (star_cons hs _ _)) fun sv H Q q => ?_
  obtain ⟨F, rho, σ, S, st, sl, q⟩ := q
  simp only [evEs] at q
  refine ⟨F, rho, σ, S, st, sl, (Post.bind q).imp fun x H1 ⟨u, S1, F1, rho1, g1, st1, c1, q1, _⟩ => ?_⟩
  refine ⟨F1, rho1, σ, S1, st1, sl.grow g1, (Post.bind q1).imp fun y H2 ⟨us, S2, F2, rho2, g2, st2, c2, q2, _⟩ => ?_⟩
  exact q2 _ F2 H2 rho2 (Grow.refl _ _ _) st2 (.cons (c1.mono g2.fex g2.rex) c2)
theorem any_star : ∀ {es : LEs} {xs : List Expr}, chkEs k es xs = true → ∀ (pos : Pos) (env : Env), (backTo pos (starEach xs env)).any (·.1) = false
  | .nil, [], _, pos, env => rfl
  | .nil, _ :: _, h, _, _ => by cases h
  | .cons e es, [], h, _, _ => by cases h
  | .cons e es, x :: xs, h, pos, env => by
    unfold chkEs at h
    obtain ⟨h1, h2⟩ := ba h
    obtain ⟨_, h3⟩ := ba h2
    rw [star_cons (by simpa using h1)]
    show (false || (backTo pos (starEach xs env)).any (·.1)) = false
    rw [any_star h3]
    rfl
theorem e_tup {es : LEs} {xs : List Expr} {n : Nat} {p : Pos} (h : PA X xs (rdEs N cf X.K X.w X.mg W es)) : PE X (.Tuple xs n p) (rdE N cf X.K X.w X.mg W (.tup es)) := by
  refine PE.imp (pe_tup h) fun sv H Q q => ?_
  obtain ⟨F, rho, σ, S, st, sl, q⟩ := q
  simp only [evE] at q
  refine ⟨F, rho, σ, S, st, sl, (Post.bind q).imp fun x H1 ⟨u, S1, F1, rho1, g1, st1, c1, q1, _⟩ => ?_⟩
  split at q1
  · rename_i hl
    refine ⟨by rw [← c1.length]; exact big_line hl, fun p n => ?_⟩
    have pp : PP X.K X.w F1 H1 rho1 (.val (.tup u)) Q := fun v F' H' g kk s c => q1 v F' H' rho1 g (st1.more g s kk) c
    exact pp.newT st1 c1 n
  · exact q1.elim
theorem e_lst {es : LEs} {xs : List Expr} {p : Pos} (h : PA X xs (rdEs N cf X.K X.w X.mg W es)) : PE X (.List xs p) (rdE N cf X.K X.w X.mg W (.lst es)) := by
  refine PE.imp (pe_lst h) fun sv H Q q => ?_
  obtain ⟨F, rho, σ, S, st, sl, q⟩ := q
  simp only [evE] at q
  refine ⟨F, rho, σ, S, st, sl, (Post.bind q).imp fun x H1 ⟨u, S1, F1, rho1, g1, st1, c1, q1, _⟩ => ?_⟩
  split at q1
  · rename_i hl
    refine ⟨by rw [← c1.length]; exact big_line hl, fun p n => ?_⟩
    have pp : PP X.K X.w F1 H1 rho1 (.newL u) Q := PP.get st1 fun v F' H' g kk s c => q1 v F' H' rho1 g (st1.more g s kk) c
    exact pp p x n c1
  · exact q1.elim
/-- a thing comes into the store -/
theorem St.push {K : PySem.W.Frag} {w : World} {F H : Hp} {rho : List Addr} {S : Sto} {p : Addr} {o : SO} {ho : HO} (st : St K w F H rho S) (n : H p = none) (ok : SOk K w F rho o ho) : Grow F H rho F (upd H p ho) (rho ++ [p]) ∧ St K w F (upd H p ho) (rho ++ [p]) (S ++ [o]) := by
  have nr : p ∉ rho := fun z => by
    obtain ⟨_, x, e⟩ := st.mem z
    rw [n] at e
    cases e
  refine ⟨⟨Same.refl _, fun _ _ h => .inl h, ⟨[p], rfl⟩, fun a h => ?_, fun a u e _ => by rw [upd_ne (ne_of_none e n)]; exact e, fun a e => ?_⟩, ⟨same_upd (st.sub.free n) st.sub, by simp [st.len], ?_, fun m a q e1 e2 => ?_⟩⟩
  · rcases List.mem_append.mp h with h | h
    · exact .inl h
    · have : a = p := by simpa using h
      subst this
      exact .inr n
  · by_cases z : a = p
    · subst z; exact n
    · rw [upd_ne z] at e; exact e
  · rw [List.nodup_append]
    refine ⟨st.nd, by simp, fun a ha b hb e => ?_⟩
    have : b = p := by simpa using hb
    subst this
    subst e
    exact nr ha
  · have pr : Pre rho (rho ++ [p]) := ⟨[p], rfl⟩
    by_cases hm : m < rho.length
    · rw [List.getElem?_append_left hm] at e1
      rw [List.getElem?_append_left (by rw [← st.len]; exact hm)] at e2
      obtain ⟨f, x, e3, e4⟩ := st.sto m a q e1 e2
      exact ⟨f, x, by rw [upd_ne (ne_of_none e3 n)]; exact e3, e4.mono (Same.refl _) pr⟩
    · have hm2 : m = rho.length := by
        have := (List.getElem?_eq_some_iff.mp e1).1
        simp at this
        omega
      subst hm2
      simp at e1
      rw [st.len] at e2
      simp at e2
      subst e1
      subst e2
      exact ⟨st.sub.free n, ho, upd_same, ok.mono (Same.refl _) pr⟩
theorem e_sto {es : LEs} {xs : List Expr} {p : Pos} (h : PA X xs (rdEs N cf X.K X.w X.mg W es)) : PE X (.List xs p) (rdE N cf X.K X.w X.mg W (.sto es)) := by
  refine PE.imp (pe_lst h) fun sv H Q q => ?_
  obtain ⟨F, rho, σ, S, st, sl, q⟩ := q
  simp only [evE] at q
  refine ⟨F, rho, σ, S, st, sl, (Post.bind q).imp fun x H1 ⟨u, S1, F1, rho1, g1, st1, c1, q1, _⟩ => ?_⟩
  split at q1
  · rename_i hl
    refine ⟨by rw [← c1.length]; exact big_line hl, fun p n => ?_⟩
    obtain ⟨g, st2⟩ := st1.push (o := .lst u) (ho := .lst x) n ⟨x, rfl, c1⟩
    exact q1 _ F1 _ _ g st2 (.ref (by rw [← st1.len]; simp))
  · exact q1.elim
theorem e_sub (ok : XOk N cf k X W) {a i : LE} {x y : Expr} {p : Pos} (hs : sliced y = false) (ha : PE X x (rdB N cf X.K X.w X.mg W a)) (hi : PE X y (rdE N cf X.K X.w X.mg W i)) : PE X (.Subscript x y p) (rdE N cf X.K X.w X.mg W (.sub a i)) := by
  have hr := ok.room
  refine PE.imp (pe_ix (ix_item (by omega)) ha hi fun o i => by cases y <;> first | rfl | cases hs) fun sv H Q q => ?_
  obtain ⟨F, rho, σ, S, st, sl, q⟩ := q
  simp only [evE] at q
  refine ⟨F, rho, σ, S, st, sl, (Post.bind q).imp fun x H1 ⟨u, S1, F1, rho1, g1, st1, c1, q1, _⟩ => ?_⟩
  refine ⟨F1, rho1, σ, S1, st1, sl.grow g1, (Post.bind q1).imp fun y H2 ⟨u2, S2, F2, rho2, g2, st2, c2, q2, _⟩ => ?_⟩
  obtain ⟨z, e, pp⟩ := q2.item st2
  exact ⟨F2, rho2, S2, u, u2, z, st2, CVb.grow g2 c1, .of c2, e, pp⟩
theorem o_non : PO X none (rdO N cf X.K X.w X.mg W .non) := PO.imp po_none fun sv H Q q => by
  obtain ⟨F, rho, σ, S, st, sl, q⟩ := q
  exact q none F H rho (Grow.refl _ _ _) st rfl
theorem o_som {e : LE} {x : Expr} (h : PE X x (rdE N cf X.K X.w X.mg W e)) : PO X (some x) (rdO N cf X.K X.w X.mg W (.som e)) := PO.imp (po_some h) fun sv H Q q => by
  obtain ⟨F, rho, σ, S, st, sl, q⟩ := q
  simp only [evO] at q
  refine ⟨F, rho, σ, S, st, sl, (Post.bind q).imp fun x H1 ⟨u, S1, F1, rho1, g1, st1, c1, q1, _⟩ => ?_⟩
  cases u with
  | int i => cases c1; exact ⟨i, rfl, q1 _ F1 H1 rho1 (Grow.refl _ _ _) st1 rfl⟩
  | _ => exact q1.elim
theorem e_slc {a : LE} {lo hi : LO} {x : Expr} {l h : Option Expr} {p p2 : Pos} (ha : PE X x (rdB N cf X.K X.w X.mg W a)) (hl : PO X l (rdO N cf X.K X.w X.mg W lo)) (hh : PO X h (rdO N cf X.K X.w X.mg W hi)) :
    PE X (.Subscript x (.Slice l h none p2) p) (rdE N cf X.K X.w X.mg W (.slc a lo hi)) := by
  refine PE.imp (pe_slice sl_cut ha hl hh) fun sv H Q q => ?_
  obtain ⟨F, rho, σ, S, st, sl, q⟩ := q
  simp only [evE] at q
  refine ⟨F, rho, σ, S, st, sl, (Post.bind q).imp fun x H1 ⟨u, S1, F1, rho1, g1, st1, c1, q1, _⟩ => ?_⟩
  refine ⟨F1, rho1, σ, S1, st1, sl.grow g1, (Post.bind q1).imp fun y H2 ⟨u2, S2, F2, rho2, g2, st2, c2, q2, _⟩ => ?_⟩
  refine ⟨F2, rho2, σ, S2, st2, (sl.grow g1).grow g2, (Post.bind q2).imp fun z H3 ⟨u3, S3, F3, rho3, g3, st3, c3, q3, _⟩ => ?_⟩
  cases c2
  cases c3
  obtain ⟨pr, e, pp⟩ := q3.pp st3
  exact ⟨F3, rho3, S3, u, pr, st3, CVb.grow g3 (CVb.grow g2 c1), e, pp⟩
/-- one argument that is only looked at -/
theorem es_one {e : LE} {x : Expr} (hs : starred x = false) (h : PE X x (rdB N cf X.K X.w X.mg W e)) : PA X [x] (tCons (rdB N cf X.K X.w X.mg W e) tNil) := pa_cons h pa_nil (star_cons hs _ _)
theorem e_fn (ok : XOk N cf k X W) {f : Fn} {e : LE} {x : Str} {y : Expr} {p p2 : Pos} (hx : x = fnName f) (hg : glB k.sc x = true) (hs : starred y = false) (h : PE X y (rdB N cf X.K X.w X.mg W e)) : PE X (.Call (.Name x p) [y] [] p2) (rdE N cf X.K X.w X.mg W (.fn f e)) := by
  subst hx
  obtain ⟨g1, g2, g3⟩ := ok.gl hg
  have key : ∀ sv H (Q : VK), rdE N cf X.K X.w X.mg W (.fn f e) sv H Q → tCB (rFn X.K X.w f) (tCons (rdB N cf X.K X.w X.mg W e) tNil) sv H Q := fun sv H Q q => by
    obtain ⟨F, rho, σ, S, st, sl, q⟩ := q
    simp only [evE] at q
    refine ⟨F, rho, σ, S, st, sl, (Post.bind q).imp fun x H1 ⟨u, S1, F1, rho1, g1, st1, c1, q1, _⟩ => ?_⟩
    obtain ⟨pr, e, pp⟩ := q1.pp st1
    exact ⟨F1, rho1, S1, u, x, pr, rfl, st1, c1, e, pp⟩
  have hse := star_cons hs ([] : List Expr) X.env
  cases f with
  | len => exact PE.imp (pe_callB (cr_fn ok.calm .len) g1 (ok.free _ (by decide +kernel)) (by decide +kernel) (es_one hs h) g3 g2 hse rfl) key
  | all => exact PE.imp (pe_callB (cr_fn ok.calm .all) g1 (ok.free _ (by decide +kernel)) (by decide +kernel) (es_one hs h) g3 g2 hse rfl) key
  | any => exact PE.imp (pe_callB (cr_fn ok.calm .any) g1 (ok.free _ (by decide +kernel)) (by decide +kernel) (es_one hs h) g3 g2 hse rfl) key
  | abs => exact PE.imp (pe_callB (cr_fn ok.calm .abs) g1 (ok.free _ (by decide +kernel)) (by decide +kernel) (es_one hs h) g3 g2 hse rfl) key
  | tuple => exact PE.imp (pe_callTy (cr_fn ok.calm .tuple) g1 (ok.free _ (by decide +kernel)) (by decide +kernel) (es_one hs h) g3 g2 hse rfl) key
  | list => exact PE.imp (pe_callTy (cr_fn ok.calm .list) g1 (ok.free _ (by decide +kernel)) (by decide +kernel) (es_one hs h) g3 g2 hse rfl) key
end
end Far

set_option Elab.async false
set_option linter.all false
set_option maxRecDepth 100000
set_option maxHeartbeats 4000000
/-! Expressions: isinstance, dicts, calls, comprehensions; all of them. -/
namespace Far
open PySem PySem.Spec PyProof.Rows L2
section
variable {N : Cn} {cf : CF} {k : Ck} {X : Cx} {W : WX}
theorem boot_ty (t : Ty) : bootBuiltins (tyName t) = some (.type (tyStr t)) := by cases t <;> decide +kernel
theorem ty_blt (t : Ty) : tyName t ∈ bltNames := by cases t <;> decide +kernel
theorem e_ty (ok : XOk N cf k X W) {t : Ty} {z : Str} {p : Pos} (hz : z = tyName t) (hg : glB k.sc z = true) : PE X (.Name z p) (tC (.ty (tyStr t))) := by
  subst hz
  obtain ⟨g1, g2, g3⟩ := ok.gl hg
  exact pe_bltn g1 (ok.free _ (ty_blt t)) (boot_ty t) rfl g3 g2
theorem e_isi (ok : XOk N cf k X W) {a : LE} {t : Ty} {x z : Str} {y : Expr} {p p2 p3 : Pos} (hx : x = "isinstance") (hg : glB k.sc x = true) (hs : starred y = false) (hz : z = tyName t) (hgz : glB k.sc z = true) (h : PE X y (rdE N cf X.K X.w X.mg W a)) :
    PE X (.Call (.Name x p) [y, .Name z p2] [] p3) (rdE N cf X.K X.w X.mg W (.isi a t)) := by
  subst hx
  obtain ⟨g1, g2, g3⟩ := ok.gl hg
  refine PE.imp (pe_callB call_isi g1 (ok.free _ (by decide +kernel)) (by decide +kernel) (pa_cons h (pa_cons (e_ty ok hz hgz) pa_nil) (star_cons hs _ _)) g3 g2 (star_cons hs _ _) rfl) fun sv H Q q => ?_
  obtain ⟨F, rho, σ, S, st, sl, q⟩ := q
  simp only [evE] at q
  refine ⟨F, rho, σ, S, st, sl, (Post.bind q).imp fun x H1 ⟨u, S1, F1, rho1, g1, st1, c1, q1, _⟩ => ?_⟩
  obtain ⟨kk, e, pp⟩ := q1.bool st1
  obtain ⟨n, e1, e2⟩ := tyIs_kit e
  exact ⟨x, _, _, _, kk, rfl, .ty _, tyx_of st1.sub c1 e1, kit_ty e2, pp⟩
def tTys (ts : List Ty) : TA := fun _ H Q => Q (ts.map fun t => V.ty (tyStr t)) H
theorem a_tys (ok : XOk N cf k X W) : ∀ {ts : List Ty} {zs : List Expr}, tysOk k.sc ts zs = true → PA X zs (tTys ts)
  | [], [], _ => pa_nil
  | [], _ :: _, h => by cases h
  | t :: ts, [], h => by cases h
  | t :: ts, z :: zs, h => by
    cases z with
    | Name x p =>
      unfold tysOk at h
      obtain ⟨h1, h2⟩ := ba h
      obtain ⟨h3, h4⟩ := ba h2
      exact PA.imp (pa_cons (e_ty ok (by simpa using h1) h3) (a_tys ok h4)) fun sv H Q q => q
    | _ => cases h
theorem kit_any {K : PySem.W.Frag} {u : U} {n : String} (hn : ofU u = some n) : ∀ {ts : List Ty} {b : Bool}, tyAny ts u = some b → PySem.W.kitAny K (.type n) (ts.map fun t => Value.type (tyStr t)) = some b
  | [], b, e => by
    simp only [tyAny, Option.some.injEq] at e
    subst e
    rfl
  | t :: ts, b, e => by
    simp only [tyAny, Option.bind_eq_some_iff] at e
    obtain ⟨b1, e1, e2⟩ := e
    obtain ⟨n', e3, e4⟩ := tyIs_kit e1
    rw [hn] at e3
    cases e3
    refine kitAny_cons (kit_ty e4) (fun z => ?_) (fun z => ?_)
    · subst z
      exact kit_any hn (by simpa using e2)
    · subst z
      simpa using e2.symm
theorem tyAny_of {ts : List Ty} {u : U} {b : Bool} (h : ts ≠ []) (e : tyAny ts u = some b) : ∃ n, ofU u = some n := by
  cases ts with
  | nil => exact absurd rfl h
  | cons t ts =>
    simp only [tyAny, Option.bind_eq_some_iff] at e
    obtain ⟨b1, e1, e2⟩ := e
    obtain ⟨n', e3, e4⟩ := tyIs_kit e1
    exact ⟨n', e3⟩
theorem cls_tys : ∀ (ts : List Ty), Paired ClsV (ts.map fun t => V.ty (tyStr t)) (ts.map fun t => Value.type (tyStr t))
  | [] => .nil
  | t :: ts => .cons (.ty _) (cls_tys ts)
theorem e_isiT (ok : XOk N cf k X W) {a : LE} {ts : List Ty} {x : Str} {y : Expr} {zs : List Expr} {n : Nat} {p p2 p3 : Pos} (hx : x = "isinstance") (hg : glB k.sc x = true) (hs : starred y = false) (hz : tysOk k.sc ts zs = true) (h : PE X y (rdE N cf X.K X.w X.mg W a)) :
    PE X (.Call (.Name x p) [y, .Tuple zs n p2] [] p3) (rdE N cf X.K X.w X.mg W (.isiT a ts)) := by
  subst hx
  obtain ⟨g1, g2, g3⟩ := ok.gl hg
  refine PE.imp (pe_callB call_isiT g1 (ok.free _ (by decide +kernel)) (by decide +kernel) (pa_cons h (pa_cons (pe_tup (a_tys ok hz)) pa_nil) (star_cons hs _ _)) g3 g2 (star_cons hs _ _) rfl) fun sv H Q q => ?_
  obtain ⟨F, rho, σ, S, st, sl, q⟩ := q
  simp only [evE] at q
  refine ⟨F, rho, σ, S, st, sl, (Post.bind q).imp fun x H1 ⟨u, S1, F1, rho1, g1, st1, c1, q1, _⟩ => ?_⟩
  have hn : ts ≠ [] ∧ ts.length ≤ 100 := by
    constructor
    · intro z
      rw [if_neg (by simp [z])] at q1
      exact q1.elim
    · by_cases z : ts.length ≤ 100
      · exact z
      · rw [if_neg (by simp [z])] at q1
        exact q1.elim
  rw [if_pos (by simp [hn.1, hn.2])] at q1
  refine ⟨by rw [List.length_map]; exact Nat.le_trans hn.2 (by decide), fun p np => ?_⟩
  cases e : tyAny ts u with
  | none => rw [e] at q1; exact q1.elim
  | some kk =>
    rw [e] at q1
    obtain ⟨n, e1⟩ := tyAny_of hn.1 e
    have nf := st1.sub.free np
    have s2 : Same (upd F1 p (.tup (ts.map fun t => V.ty (tyStr t)))) (upd H1 p (.tup (ts.map fun t => V.ty (tyStr t)))) := fun a o e => by
      by_cases z : a = p
      · subst z; rw [upd_same] at e ⊢; exact e
      · rw [upd_ne z] at e ⊢; exact st1.sub _ _ e
    have g := Grow.new (rho := rho1) (o := .tup (ts.map fun t => V.ty (tyStr t))) st1.sub np
    refine ⟨x, p, _, _, _, kk, rfl, upd_same, cls_tys ts, tyx_of (st1.sub.trans (same_upd np (Same.refl _))) c1 e1, kit_any e1 e, ?_⟩
    exact q1 _ _ _ rho1 g (st1.more g s2 (same_upd np (Same.refl _))) (.bl _)
theorem e_call (ok : XOk N cf k X W) {f x : Str} {es : LEs} {ys : List Expr} {p p2 : Pos} (hx : x = f) (hg : glB k.sc x = true) (hne : ys ≠ []) (hc : chkEs k es ys = true) (h : PA X ys (rdEs N cf X.K X.w X.mg W es)) :
    PE X (.Call (.Name x p) ys [] p2) (rdE N cf X.K X.w X.mg W (.call f es)) := by
  subst hx
  obtain ⟨g1, g2, g3⟩ := ok.gl hg
  cases hh : N.has x with
  | false =>
    refine ⟨fun pins s σ H Q I q => ?_⟩
    obtain ⟨F, rho, σ, S, st, sl, q⟩ := q
    simp only [evE, hh] at q
    exact q.elim
  | true =>
    obtain ⟨n, room, calls⟩ := ok.calls
    obtain ⟨a, fd, ps, m, kp, fn, b, len⟩ := calls x hh
    cases ys with
    | nil => exact absurd rfl hne
    | cons y ys =>
      have hst : starEach (y :: ys) X.env = (false, eval y X.env) :: starEach ys X.env := by
        cases es with
        | nil => cases hc
        | cons e es =>
          unfold chkEs at hc
          exact star_cons (by simpa using (ba hc).1) _ _
      have hpl : (backTo p2 (starEach ys X.env)).any (·.1) = false := by
        cases es with
        | nil => cases hc
        | cons e es =>
          unfold chkEs at hc
          exact any_star (ba (ba hc).2).2 _ _
      refine PE.imp (pe_callS fn room g1 m kp b (fun σ => passAt ok.takes σ) h g2 hst hpl) fun sv H Q q => ?_
      obtain ⟨F, rho, σ, S, st, sl, q⟩ := q
      simp only [evE, hh, if_true] at q
      refine ⟨F, rho, σ, S, st, sl, (Post.bind q).imp fun vs H1 ⟨us, S1, F1, rho1, g1, st1, c1, q1, _⟩ => ?_⟩
      refine ⟨F1, rho1, S1, us, st1, c1, ?_, q1⟩
      rw [← c1.length]
      refine len us S1 fun z => ?_
      rw [z] at q1
      exact q1.elim

/-! ### targets -/
theorem set_slots {K : PySem.W.Frag} {w : World} {F H : Hp} {rho : List Addr} {σ : Slots} {sv : L2.St} {i : Nat} {u : U} {v : V} (sl : SlotsOk K w F H rho σ sv) (c : CV K w F rho u v) : SlotsOk K w F H rho (σ.set i (.val u)) (sv.set i (some v)) where
  len := by rw [List.length_set, List.length_set, sl.len]
  at_ := fun j s e => by
    by_cases z : i = j
    · subst z
      have hi : i < σ.length := by
        have := (List.getElem?_eq_some_iff.mp e).1
        simpa using this
      rw [List.getElem?_set_self hi] at e
      cases e
      exact ⟨some v, by rw [List.getElem?_set_self (by rw [← sl.len]; exact hi)], v, rfl, c⟩
    · rw [List.getElem?_set_ne z] at e ⊢
      exact sl.at_ j s e
  apart := fun j l us ws p e1 e2 e3 e4 => by
    have a1 : i ≠ j := fun z => by
      subst z
      have hi : i < σ.length := by
        have := (List.getElem?_eq_some_iff.mp e1).1
        simpa using this
      rw [List.getElem?_set_self hi] at e1
      cases e1
    have a2 : i ≠ l := fun z => by
      subst z
      have hi : i < σ.length := by
        have := (List.getElem?_eq_some_iff.mp e2).1
        simpa using this
      rw [List.getElem?_set_self hi] at e2
      cases e2
    rw [List.getElem?_set_ne a1] at e1 e3
    rw [List.getElem?_set_ne a2] at e2 e4
    exact sl.apart j l us ws p e1 e2 e3 e4
/-- two slot lists that part at some slots alone -/
def But (is : List Nat) (sv sv' : L2.St) : Prop := sv'.length = sv.length ∧ ∀ i, i ∉ is → sv'[i]? = sv[i]?
theorem But.refl (is : List Nat) (sv : L2.St) : But is sv sv := ⟨rfl, fun _ _ => rfl⟩
theorem But.trans {is js : List Nat} {a b c : L2.St} (h : But is a b) (h' : But js b c) : But (is ++ js) a c := ⟨h'.1.trans h.1, fun i n => (h'.2 i fun z => n (List.mem_append_right _ z)).trans (h.2 i fun z => n (List.mem_append_left _ z))⟩
theorem But.set (i : Nat) (sv : L2.St) (o : Option V) : But [i] sv (sv.set i o) := ⟨by simp, fun j n => List.getElem?_set_ne fun z => n (by simp [z])⟩
/-- a target's reading -/
def rdG (K : PySem.W.Frag) (w : World) (t : LT) : TG := fun v sv H Q => ∃ F rho S σ u σ', St K w F H rho S ∧ SlotsOk K w F H rho σ sv ∧ CV K w F rho u v ∧ assign t u σ = some σ' ∧
  ∀ F' H' sv', Grow F H rho F' H' rho → Same H H' → St K w F' H' rho S → SlotsOk K w F' H' rho σ' sv' → But t.slots sv sv' → Q sv' H'
def rdGs (K : PySem.W.Frag) (w : World) (ts : List LT) : TGs := fun vs sv H Q => ∃ F rho S σ us σ', St K w F H rho S ∧ SlotsOk K w F H rho σ sv ∧ CVs K w F rho us vs ∧ assign.assigns ts us σ = some σ' ∧
  ∀ F' H' sv', Grow F H rho F' H' rho → Same H H' → St K w F' H' rho S → SlotsOk K w F' H' rho σ' sv' → But (LT.slotss ts) sv sv' → Q sv' H'
theorem PG.imp {X : Cx} {e : Expr} {t t' : TG} (h : PG X e t) (q : ∀ v sv H Q, t' v sv H Q → t v sv H Q) : PG X e t' := ⟨fun pins s σ H v u Q I r z => h.run pins s σ H v u Q I r (q _ _ _ _ z)⟩
theorem PGs.imp {X : Cx} {e : List Expr} {t t' : TGs} (h : PGs X e t) (q : ∀ v sv H Q, t' v sv H Q → t v sv H Q) : PGs X e t' := ⟨fun pins s σ H v u Q I r z => h.run pins s σ H v u Q I r (q _ _ _ _ z)⟩
theorem XOk.sto (o : XOk N cf k X W) {i : Nat} {x : Str} (h : k.sto i x = true) : X.N[i]? = some x ∧ Loc X.env.scope x ∧ (X.fn x = true ∨ X.env.scope.names.lookup x = some .local) := by
  unfold Ck.sto at h
  obtain ⟨h1, h2⟩ := ba h
  rw [o.ns, o.sc]
  simp only [Bool.or_eq_true, Bool.and_eq_true, beq_iff_eq] at h2
  rcases h2 with h2 | ⟨h2, h3⟩
  · exact ⟨by simpa using h1, .inl h2, .inr h2⟩
  · exact ⟨by simpa using h1, .inr h2, .inl (o.fn x h3)⟩
theorem g_nm (o : XOk N cf k X W) {i : Nat} {x : Str} {p : Pos} (h : k.sto i x = true) : PG X (.Name x p) (gName i) := by
  obtain ⟨h1, h2, h3⟩ := o.sto h
  exact pg_name o.nd h1 h2 h3
theorem each_cons {e : Expr} (h : starred e = false) (es : List Expr) (env : Env) : assignEach (e :: es) env = (false, PySem.assign e env) :: assignEach es env := by
  cases e <;> first | rfl | cases h
theorem each_plain : ∀ {ts : List LT} {es : List Expr}, chkTs k ts es = true → ∀ (env : Env), (assignEach es env).length = ts.length ∧ (assignEach es env).findIdx? (·.1) = none ∧ es.length = ts.length
  | [], [], _, env => ⟨rfl, rfl, rfl⟩
  | [], _ :: _, h, env => by unfold chkTs at h; cases h
  | t :: ts, [], h, env => by unfold chkTs at h; cases h
  | t :: ts, e :: es, h, env => by
    unfold chkTs at h
    obtain ⟨h1, h2⟩ := ba h
    obtain ⟨h3, h4⟩ := ba h2
    obtain ⟨i1, i2, i3⟩ := each_plain h4 env
    rw [each_cons (by simpa using h3)]
    refine ⟨by simp [i1], ?_, by simp [i3]⟩
    rw [List.findIdx?_cons]
    simp [i2]
theorem setAll_len : ∀ (is : List Nat) (us : List U) (σ : Slots), (assign.setAll is us σ).length = σ.length
  | [], us, σ => by unfold assign.setAll; rfl
  | i :: is, [], σ => by unfold assign.setAll; rfl
  | i :: is, u :: us, σ => by
    unfold assign.setAll
    rw [setAll_len is us, List.length_set]
def gNames : List Nat → TGs
  | [] => gNil
  | i :: is => gCons (gName i) (gNames is)
/-- names stored one behind another -/
def setV : List Nat → List V → L2.St → L2.St
  | i :: is, v :: vs, sv => setV is vs (sv.set i (some v))
  | _, _, sv => sv
theorem gNames_of : ∀ {is : List Nat} {vs : List V} {sv : L2.St} {H : Hp} {Q : L2.St → Hp → Prop}, is.length = vs.length → Q (setV is vs sv) H → gNames is vs sv H Q
  | [], [], sv, H, Q, _, q => ⟨rfl, q⟩
  | [], _ :: _, _, _, _, l, _ => by cases l
  | _ :: _, [], _, _, _, l, _ => by cases l
  | i :: is, v :: vs, sv, H, Q, l, q => ⟨v, vs, rfl, gNames_of (by simpa using l) q⟩
theorem setAll_ok {K : PySem.W.Frag} {w : World} {F H : Hp} {rho : List Addr} : ∀ {is : List Nat} {us : List U} {vs : List V} {σ : Slots} {sv : L2.St}, CVs K w F rho us vs → SlotsOk K w F H rho σ sv → SlotsOk K w F H rho (assign.setAll is us σ) (setV is vs sv)
  | [], _, _, σ, sv, _, sl => by unfold assign.setAll setV; exact sl
  | i :: is, _, _, σ, sv, .nil, sl => by unfold assign.setAll setV; exact sl
  | i :: is, _, _, σ, sv, .cons c cs, sl => by
    unfold assign.setAll setV
    exact setAll_ok cs (set_slots sl c)
theorem setV_but : ∀ (is : List Nat) (vs : List V) (sv : L2.St), But is sv (setV is vs sv)
  | [], vs, sv => by unfold setV; exact But.refl _ _
  | i :: is, [], sv => by unfold setV; exact But.refl _ _
  | i :: is, v :: vs, sv => by
    unfold setV
    have := (But.set i sv (some v)).trans (setV_but is vs (sv.set i (some v)))
    exact this
theorem setV_append : ∀ (is : List Nat) (j : Nat) (vs : List V) (v : V) (sv : L2.St), is.length = vs.length → setV (is ++ [j]) (vs ++ [v]) sv = (setV is vs sv).set j (some v)
  | [], j, [], v, sv, _ => rfl
  | [], j, _ :: _, v, sv, l => by cases l
  | i :: is, j, [], v, sv, l => by cases l
  | i :: is, j, x :: vs, v, sv, l => by
    show setV (is ++ [j]) (vs ++ [v]) (sv.set i (some x)) = _
    rw [setV_append is j vs v _ (by simpa using l)]
    rfl
theorem setAll_take : ∀ (is : List Nat) (us : List U) (σ : Slots), assign.setAll is us σ = assign.setAll is (us.take is.length) σ
  | [], us, σ => by simp [assign.setAll]
  | i :: is, [], σ => by simp [assign.setAll]
  | i :: is, u :: us, σ => by
    simp only [assign.setAll, List.length_cons, List.take_succ_cons]
    exact setAll_take is us _
theorem assigns_len : ∀ {ts : List LT} {us : List U} {σ σ' : Slots}, assign.assigns ts us σ = some σ' → us.length = ts.length
  | [], [], _, _, _ => rfl
  | [], _ :: _, _, _, e => by unfold assign.assigns at e; cases e
  | _ :: _, [], _, _, e => by unfold assign.assigns at e; cases e
  | t :: ts, u :: us, σ, σ', e => by
    unfold assign.assigns at e
    simp only [Option.bind_eq_some_iff] at e
    obtain ⟨σ1, _, e2⟩ := e
    simp [assigns_len e2]
theorem chkSt_nil {j : Nat} {es : List Expr} (h : chkSt k [] j es = true) : ∃ x p p2, es = [.Starred (.Name x p) p2] ∧ k.sto j x = true := by
  unfold chkSt at h
  split at h
  all_goals first | exact ⟨_, _, _, rfl, h⟩ | contradiction | cases h
theorem chkSt_cons {i j : Nat} {is : List Nat} {es : List Expr} (h : chkSt k (i :: is) j es = true) : ∃ x p r, es = .Name x p :: r ∧ k.sto i x = true ∧ chkSt k is j r = true := by
  cases es with
  | nil => unfold chkSt at h; cases h
  | cons e r =>
    cases e with
    | Name x p =>
      unfold chkSt at h
      exact ⟨x, p, r, rfl, (ba h).1, (ba h).2⟩
    | _ => unfold chkSt at h; cases h
theorem st_names (o : XOk N cf k X W) : ∀ {is : List Nat} {j : Nat} {es : List Expr}, chkSt k is j es = true → ∃ fs, PGs X fs (gNames (is ++ [j])) ∧ (assignEach es X.env).length = is.length + 1 ∧ (assignEach es X.env).findIdx? (·.1) = some is.length ∧ (assignEach es X.env).map (·.2) = (assignEach fs X.env).map (·.2)
  | [], j, es, h => by
    obtain ⟨x, p, p2, rfl, h1⟩ := chkSt_nil h
    exact ⟨[.Name x p], pgs_cons (g_nm o h1) pgs_nil, rfl, rfl, rfl⟩
  | i :: is, j, es, h => by
    obtain ⟨x, p, es', rfl, h1, h2⟩ := chkSt_cons h
    obtain ⟨fs, g, l, f, m⟩ := st_names o h2
    refine ⟨.Name x p :: fs, pgs_cons (g_nm o h1) g, ?_, ?_, ?_⟩
    · show (assignEach es' X.env).length + 1 = _
      rw [l]
      rfl
    · show List.findIdx? (·.1) ((false, PySem.assign (.Name x p) X.env) :: assignEach es' X.env) = _
      rw [List.findIdx?_cons, f]
      simp
    · show _ :: (assignEach es' X.env).map (·.2) = _ :: (assignEach fs X.env).map (·.2)
      rw [m]
/-- what a tuple or list is walked as -/
theorem seq_view {K : PySem.W.Frag} {w : World} {F H : Hp} {rho : List Addr} {S : Sto} {us : List U} {v : V} (st : St K w F H rho S) (h : CV K w F rho (.tup us) v ∨ CV K w F rho (.lst us) v) : ∃ a vs, v = .ref a ∧ (SqT K H a vs ∨ SqL K H a vs) ∧ CVs K w F rho us vs := by
  rcases h with h | h
  · cases h with
    | tup q c => exact ⟨_, _, rfl, .inl (same_t st.sub q), c⟩
  · cases h with
    | lst q c => exact ⟨_, _, rfl, .inr (SqL.of (st.sub _ _ q)), c⟩
theorem g_st (o : XOk N cf k X W) {is : List Nat} {j : Nat} {es : List Expr} {n : Nat} {p : Pos} (h : chkSt k is j es = true) : PG X (.Tuple es n p) (rdG X.K X.w (.st is j)) := by
  obtain ⟨fs, g, l, f, m⟩ := st_names o h
  refine PG.imp (pg_star o.calm g l f m) fun v sv H Q q => ?_
  obtain ⟨F, rho, S, σ, u, σ', st, sl, c, e, q⟩ := q
  have hu : ∃ us, (CV X.K X.w F rho (.tup us) v ∨ CV X.K X.w F rho (.lst us) v) ∧ is.length ≤ us.length ∧ σ' = (assign.setAll is us σ).set j (.val (.lst (us.drop is.length))) := by
    unfold assign at e
    cases u with
    | tup us =>
      simp only at e
      split at e
      · rename_i hl; cases e; exact ⟨us, .inl c, hl, rfl⟩
      · cases e
    | lst us =>
      simp only at e
      split at e
      · rename_i hl; cases e; exact ⟨us, .inr c, hl, rfl⟩
      · cases e
    | _ => cases e
  obtain ⟨us, cc, hl, rfl⟩ := hu
  obtain ⟨a, vs, rfl, hq, cs⟩ := seq_view st cc
  have hlen := cs.length
  refine ⟨a, vs, rfl, hq, by omega, fun p np => ?_⟩
  have nf := st.sub.free np
  have g := Grow.new (rho := rho) (o := .lst (vs.drop is.length)) st.sub np
  have s2 : Same (upd F p (.lst (vs.drop is.length))) (upd H p (.lst (vs.drop is.length))) := fun a o e => by
    by_cases z : a = p
    · subst z; rw [upd_same] at e ⊢; exact e
    · rw [upd_ne z] at e ⊢; exact st.sub _ _ e
  have c1 : CVs X.K X.w (upd F p (.lst (vs.drop is.length))) rho us vs := cs.mono g.fex (Pre.refl _)
  refine gNames_of (by simp; omega) (q _ _ _ g (same_upd np (Same.refl _)) (st.more g s2 (same_upd np (Same.refl _))) ?_ (setV_but _ _ _))
  rw [setV_append _ _ _ _ _ (by simp; omega), setAll_take]
  exact set_slots (setAll_ok (c1.take _) (sl.grow g)) (.lst upd_same (c1.drop _))
mutual
theorem g_all (o : XOk N cf k X W) : ∀ (t : LT) (e : Expr), chkT k t e = true → PG X e (rdG X.K X.w t)
  | .nm i, e, h => by
    cases e with
    | Name x p =>
      unfold chkT at h
      refine PG.imp (g_nm o h) fun v sv H Q q => ?_
      obtain ⟨F, rho, S, σ, u, σ', st, sl, c, e, q⟩ := q
      unfold assign at e
      cases e
      exact q F H _ (Grow.refl _ _ _) (Same.refl _) st (set_slots sl c) (But.set _ _ _)
    | _ => unfold chkT at h; cases h
  | .st is j, e, h => by
    cases e with
    | Tuple es n p =>
      unfold chkT at h
      exact g_st o h
    | _ => unfold chkT at h; cases h
  | .tp ts, e, h => by
    cases e with
    | Tuple es n p =>
      unfold chkT at h
      obtain ⟨h1, h2, h3⟩ := each_plain h X.env
      refine PG.imp (pg_tup o.calm (gs_all o ts es h) h1 h2) fun v sv H Q q => ?_
      obtain ⟨F, rho, S, σ, u, σ', st, sl, c, e, q⟩ := q
      unfold assign at e
      cases u with
      | tup us =>
        simp only at e
        obtain ⟨a, vs, rfl, hq, cs⟩ := CVb.tup st (.of c)
        have hl : us.length = ts.length := assigns_len e
        refine ⟨a, vs, rfl, hq, by rw [← cs.length]; exact hl, F, rho, S, σ, us, σ', st, sl, cs, e, fun F' H' sv' g k st' sl' b => q F' H' sv' g k st' sl' b⟩
      | _ => cases e
    | _ => unfold chkT at h; cases h
theorem gs_all (o : XOk N cf k X W) : ∀ (ts : List LT) (es : List Expr), chkTs k ts es = true → PGs X es (rdGs X.K X.w ts)
  | [], [], h => PGs.imp pgs_nil fun vs sv H Q q => by
    obtain ⟨F, rho, S, σ, us, σ', st, sl, c, e, q⟩ := q
    cases c with
    | nil =>
      unfold assign.assigns at e
      cases e
      exact ⟨rfl, q F H sv (Grow.refl _ _ _) (Same.refl _) st sl (But.refl _ _)⟩
    | cons => unfold assign.assigns at e; cases e
  | [], _ :: _, h => by unfold chkTs at h; cases h
  | t :: ts, [], h => by unfold chkTs at h; cases h
  | t :: ts, e :: es, h => by
    unfold chkTs at h
    obtain ⟨h1, h2⟩ := ba h
    obtain ⟨h3, h4⟩ := ba h2
    refine PGs.imp (pgs_cons (g_all o t e h1) (gs_all o ts es h4) (by rw [each_cons (by simpa using h3)]; rfl)) fun vs sv H Q q => ?_
    obtain ⟨F, rho, S, σ, us, σ', st, sl, c, e, q⟩ := q
    cases c with
    | nil => unfold assign.assigns at e; cases e
    | cons c cs =>
      unfold assign.assigns at e
      simp only [Option.bind_eq_some_iff] at e
      obtain ⟨σ1, e1, e2⟩ := e
      refine ⟨_, _, rfl, F, rho, S, σ, _, σ1, st, sl, c, e1, fun F1 H1 sv1 g1 k1 st1 sl1 b1 => ?_⟩
      refine ⟨F1, rho, S, σ1, _, σ', st1, sl1, cs.mono g1.fex (Pre.refl _), e2, fun F2 H2 sv2 g2 k2 st2 sl2 b2 => ?_⟩
      exact q F2 H2 sv2 (g1.trans g2) (k1.trans k2) st2 sl2 (b1.trans b2)
end
end
end Far

set_option Elab.async false
set_option linter.all false
set_option maxRecDepth 100000
set_option maxHeartbeats 4000000
/-! Dict displays, comprehensions; all expressions. -/
namespace Far
open PySem PySem.Spec PyProof.Rows L2
def isBool : Expr → Bool
  | .BoolOp .. => true
  | _ => false
section
variable {N : Cn} {cf : CF} {k : Ck} {X : Cx} {W : WX}
/-- a test, bare or among and, or -/
inductive PWT (X : Cx) (e : Expr) (t : TT) : Prop where
  | w (h : PW X e t) : PWT X e t
  | t (hn : isBool e = false) (h : PT X e t) : PWT X e t
theorem PWT.pt {X : Cx} {e : Expr} {t : TT} (h : PWT X e t) : PT X e t := by
  cases h with
  | w h => exact h.pt
  | t _ h => exact h
theorem PWT.pw {X : Cx} {e : Expr} {t : TT} (h : PWT X e t) (b : isBool e = true) : PW X e t := by
  cases h with
  | w h => exact h
  | t n h => rw [n] at b; cases b
theorem PW.imp {X : Cx} {e : Expr} {t t' : TT} (h : PW X e t) (q : ∀ sv H Q, t' sv H Q → t sv H Q) : PW X e t' := ⟨fun wh pins s σ H Q I z => h.run wh pins s σ H Q I (q _ _ _ z)⟩
def EachE (N : Cn) (cf : CF) (X : Cx) (W : WX) : LEs → List Expr → Prop
  | .nil, [] => True
  | .cons e es, x :: xs => PE X x (rdE N cf X.K X.w X.mg W e) ∧ EachE N cf X W es xs
  | _, _ => False
/-! ### a dict display -/
theorem putK_new {ks : List Key} {vs : List V} {q : Key} {v : V} (hl : ks.length = vs.length) (h : q ∉ ks) : putK (ks.zip vs) q v = ks.zip vs ++ [(q, v)] := by
  unfold putK
  rw [if_neg]
  intro z
  rw [List.any_eq_true] at z
  obtain ⟨kv, m, e⟩ := z
  have := (List.of_mem_zip m).1
  rw [of_decide_eq_true e] at this
  exact h this
theorem mergeK_nd : ∀ {ks js : List Key} {vs ws : List V}, js.length = ws.length → ks.length = vs.length → (js ++ ks).Nodup → mergeK (js.zip ws) (ks.zip vs) = (js ++ ks).zip (ws ++ vs)
  | [], js, [], ws, _, _, _ => by simp [mergeK]
  | [], _, _ :: _, _, _, l, _ => by cases l
  | _ :: _, _, [], _, _, l, _ => by cases l
  | q :: ks, js, v :: vs, ws, l1, l2, nd => by
    show mergeK (putK (js.zip ws) q v) (ks.zip vs) = _
    rw [putK_new l1 (by
      intro z
      rw [List.nodup_append] at nd
      exact nd.2.2 q z q List.mem_cons_self rfl)]
    have e1 : js.zip ws ++ [(q, v)] = (js ++ [q]).zip (ws ++ [v]) := by
      rw [List.zip_append l1]
      rfl
    rw [e1, mergeK_nd (ks := ks) (js := js ++ [q]) (by simp [l1]) (by simpa using l2) (by simpa using nd)]
    simp
def trsOf (K : PySem.W.Frag) (w : World) (mg : Str → Option Value) (N : Cn) (cf : CF) (W : WX) : List Key → LEs → List (TE × TE)
  | q :: ks, .cons e es => (tC (kV q), rdE N cf K w mg W e) :: trsOf K w mg N cf W ks es
  | _, _ => []
def zipK (ks : List Key) (vs : List V) : List (V × V) := (ks.zip vs).map fun kv => (kV kv.1, kv.2)
theorem pairs_of {K : PySem.W.Frag} {w : World} {mg : Str → Option Value} {sv : L2.St} {σ : Slots} : ∀ {ks : List Key} {es : LEs} {F H : Hp} {rho : List Addr} {S : Sto} {Q : List (V × V) → Hp → Prop}, ks.length = es.len → St K w F H rho S → SlotsOk K w F H rho σ sv →
    Post K w mg (relL K w) F H rho (evEs N cf σ es S) (fun vs H' => Q (zipK ks vs) H') (WE W sv) → tPairs (trsOf K w mg N cf W ks es) sv H Q
  | [], .nil, F, H, rho, S, Q, _, st, sl, q => q [] F H rho (Grow.refl _ _ _) st .nil
  | [], .cons _ _, _, _, _, _, _, l, _, _, _ => by cases l
  | _ :: _, .nil, _, _, _, _, _, l, _, _, _ => by cases l
  | x :: ks, .cons e es, F, H, rho, S, Q, l, st, sl, q => by
    simp only [evEs] at q
    refine ⟨F, rho, σ, S, st, sl, (Post.bind q).imp fun y H1 ⟨u, S1, F1, rho1, g1, st1, c1, q1, _⟩ => ?_⟩
    refine pairs_of (by simpa [LEs.len] using l) st1 (sl.grow g1) ((Post.bind q1).imp fun ys H2 ⟨us, S2, F2, rho2, g2, st2, c2, q2, _⟩ => ?_)
    exact q2 (y :: ys) F2 H2 rho2 (Grow.refl _ _ _) st2 (.cons (c1.mono g2.fex g2.rex) c2)
theorem pps_of {p : Pos} : ∀ {ks : List Key} {es : LEs} {keys : List (Option Expr)} {vals : List Expr}, keysOk ks keys = true → keys.length = vals.length → chkEs k es vals = true → EachE N cf X W es vals →
    PPs X p keys vals (trsOf X.K X.w X.mg N cf W ks es) ∧ ks.length = es.len ∧ ks.length = keys.length ∧ keys.all (·.isSome) = true
  | [], es, [], vals, h1, h2, h3, h => by
    cases vals with
    | nil =>
      cases es with
      | nil => exact ⟨pps_nil, rfl, rfl, rfl⟩
      | cons => cases h3
    | cons => cases h2
  | [], _, _ :: _, _, h1, _, _, _ => by cases h1
  | _ :: _, _, [], _, h1, _, _, _ => by cases h1
  | _ :: _, _, none :: _, _, h1, _, _, _ => by cases h1
  | q :: ks, es, some x :: keys, vals, h1, h2, h3, h => by
    cases vals with
    | nil => cases h2
    | cons y vals =>
      cases es with
      | nil => cases h3
      | cons e es =>
        unfold keysOk at h1
        unfold chkEs at h3
        obtain ⟨a1, a2⟩ := ba h1
        obtain ⟨b1, b2⟩ := ba h3
        obtain ⟨b3, b4⟩ := ba b2
        obtain ⟨i1, i2, i3, i4⟩ := pps_of (p := p) a2 (by simpa using h2) b4 h.2
        refine ⟨pps_cons ?_ h.1 i1, by simp [LEs.len, i2], by simp [i3], by simp [i4]⟩
        unfold keyOk at a1
        split at a1
        · rw [eq_of_beq a1]
          exact pe_int
        · rw [eq_of_beq a1]
          exact pe_str
        · cases a1
/-- a thing that was laid meanwhile is frozen in another make -/
theorem Grow.froze {F H F2 H2 : Hp} {rho rho2 : List Addr} {p : Addr} {o : HO} (g : Grow F H rho F2 H2 rho2) (n : H p = none) (f : F2 p = none) : Grow F H rho (upd F2 p o) (upd H2 p o) rho2 where
  fex := fun a u e => by
    have e2 := g.fex a u e
    rw [upd_ne (ne_of_none e2 f)]
    exact e2
  fnew := fun a u e => by
    by_cases z : a = p
    · subst z; exact .inr n
    · rw [upd_ne z] at e; exact g.fnew a u e
  rex := g.rex
  rnew := g.rnew
  keep := fun a u e na => by
    rw [upd_ne (ne_of_none e n)]
    exact g.keep a u e na
  dom := fun a e => by
    by_cases z : a = p
    · subst z; exact n
    · rw [upd_ne z] at e; exact g.dom a e
theorem St.froze {K : PySem.W.Frag} {w : World} {F H : Hp} {rho : List Addr} {S : Sto} {p : Addr} {o : HO} (st : St K w F H rho S) (f : F p = none) (n : p ∉ rho) : St K w (upd F p o) (upd H p o) rho S where
  sub := fun a u e => by
    by_cases z : a = p
    · subst z; rw [upd_same] at e ⊢; exact e
    · rw [upd_ne z] at e ⊢; exact st.sub _ _ e
  len := st.len
  nd := st.nd
  sto := fun m a q e1 e2 => by
    obtain ⟨f1, x, e3, e4⟩ := st.sto m a q e1 e2
    have z : a ≠ p := fun z => by
      subst z
      exact n (List.mem_of_getElem? e1)
    exact ⟨by rw [upd_ne z]; exact f1, x, by rw [upd_ne z]; exact e3, e4.mono (same_upd f (Same.refl _)) (Pre.refl _)⟩
/-- what a step of a new thing's making leaves of it -/
theorem Grow.at {F H F2 H2 : Hp} {rho rho2 : List Addr} {p : Addr} {o : HO} (g : Grow F H rho F2 H2 rho2) (f : F p = none) (n : p ∉ rho) (h : H p = some o) : F2 p = none ∧ p ∉ rho2 ∧ H2 p = some o := by
  refine ⟨?_, fun z => ?_, g.keep _ _ h n⟩
  · cases z : F2 p with
    | none => rfl
    | some x =>
      rcases g.fnew p x z with y | y
      · rw [f] at y; cases y
      · rw [h] at y; cases y
  · rcases g.rnew _ z with z | z
    · exact n z
    · rw [h] at z; cases z
theorem St.new {K : PySem.W.Frag} {w : World} {F H : Hp} {rho : List Addr} {S : Sto} {p : Addr} (st : St K w F H rho S) (n : H p = none) : p ∉ rho := fun z => by
  obtain ⟨_, x, e⟩ := st.mem z
  rw [n] at e
  cases e
theorem St.lay {K : PySem.W.Frag} {w : World} {F H : Hp} {rho : List Addr} {S : Sto} {p : Addr} {o : HO} (st : St K w F H rho S) (n : H p = none) : St K w F (upd H p o) rho S where
  sub := st.sub.trans (same_upd n (Same.refl _))
  len := st.len
  nd := st.nd
  sto := fun m a q e1 e2 => by
    obtain ⟨f1, x, e3, e4⟩ := st.sto m a q e1 e2
    exact ⟨f1, x, by rw [upd_ne (ne_of_none e3 n)]; exact e3, e4⟩
theorem e_dctL {ks : List Key} {es : LEs} {keys : List (Option Expr)} {vals : List Expr} {p : Pos} (h1 : keysOk ks keys = true) (h2 : keys.length = vals.length) (h0 : keys ≠ []) (h15 : keys.length ≤ 15) (h3 : chkEs k es vals = true) (h : EachE N cf X W es vals) :
    PE X (.Dict keys vals p) (rdE N cf X.K X.w X.mg W (.dct ks es)) := by
  obtain ⟨i1, i2, i3, i4⟩ := pps_of (N := N) (cf := cf) (W := W) (p := p) h1 h2 h3 h
  refine PE.imp (pe_disp i1 i4 h2 h0 h15) fun sv H Q q => ?_
  obtain ⟨F, rho, σ, S, st, sl, q⟩ := q
  simp only [evE] at q
  intro p np
  have nf := st.sub.free np
  have nr := st.new np
  have gl : Grow F H rho F (upd H p (.dK [])) rho := Grow.lay np
  refine pairs_of i2 (st.lay np) (sl.grow gl) ?_
  cases e : evEs N cf σ es S with
  | bad => rw [e] at q; exact q.elim
  | exc x S1 =>
    rw [e] at q
    exact fun c d F' H' rho' g' st' xr => q c d F' H' rho' (gl.trans g') st' xr
  | ok us S1 =>
    rw [e] at q
    intro vs F1 H1 rho1 g1 st1 c1
    simp only [R.bind_ok] at q
    split at q
    · rename_i hc
      obtain ⟨f1, n1, e1⟩ := g1.at nf nr upd_same
      have hl : ks.length = vs.length := by rw [← c1.length]; exact hc.1.symm
      refine ⟨e1, ks.zip vs, rfl, by rw [List.length_zip]; omega, ?_⟩
      have hm := mergeK_nd (ks := ks) (js := []) (vs := vs) (ws := []) rfl hl (by simpa using hc.2.2)
      have hm2 : mergeK [] (ks.zip vs) = ks.zip vs := by simpa using hm
      rw [hm2]
      exact q _ _ _ rho1 ((gl.trans g1).froze np f1) (st1.froze f1 n1) (.dct upd_same hl (c1.mono (same_upd f1 (Same.refl _)) (Pre.refl _)))
    · exact q.elim

/-! ### comprehensions -/
theorem XOk.blk (ok : XOk N cf k X W) {scope : Scope} {s : Shared} {H : Hp} {C : Addr} {cl : List (Str × Addr)} {fp : List Addr} : XOk N cf (k.blk scope) (X.blk s H scope (compEnvC scope cl C X.env) fp) (fun _ _ _ _ => False) where
  ns := ok.ns
  sc := by
    show relabel scope X.env = relS scope k.sc
    rw [← ok.sc]
    rfl
  fn := fun x h => h
  nd := ok.nd
  calm := ok.calm
  room := ok.room
  con := ok.con
  free := ok.free
  takes := takes0
  calls := ok.calls
def rdK (N : Cn) (cf : CF) (K : PySem.W.Frag) (w : World) (mg : Str → Option Value) (W : WX) (e : LK) : TT := fun sv H Q => ∃ F rho σ S, St K w F H rho S ∧ SlotsOk K w F H rho σ sv ∧ Post K w mg relEq F H rho (evC N cf σ e S) Q (WE W sv)
theorem PTs.imp {X : Cx} {e : List Expr} {t t' : TT} (h : PTs X e t) (q : ∀ sv H Q, t' sv H Q → t sv H Q) : PTs X e t' := ⟨fun pins s σ H Q I z => h.run pins s σ H Q I (q _ _ _ z)⟩
theorem Post.bindN {K : PySem.W.Frag} {w : World} {mg : Str → Option Value} {α β γ δ : Type} {rel : Hp → Hp → List Addr → α → β → Prop} {rel2 : Hp → Hp → List Addr → γ → δ → Prop} {F H F0 H0 : Hp} {rho rho0 : List Addr} {r : R α} {f : α → Sto → R γ} {Q : δ → Hp → Prop} {E E' : XK}
    (h : Post K w mg rel2 F0 H0 rho0 (r.bindN f) Q E) : Post K w mg rel F H rho r (fun b H1 => ∃ a S1 F1 rho1, Grow F H rho F1 H1 rho1 ∧ St K w F1 H1 rho1 S1 ∧ rel F1 H1 rho1 a b ∧ Post K w mg rel2 F0 H0 rho0 (f a S1) Q E) E' := by
  cases r with
  | ok a S => exact fun b F' H' rho' g st c => ⟨a, S, F', rho', g, st, c, h⟩
  | exc x S => exact h.elim
  | bad => exact h.elim
theorem wipe_at (sv : L2.St) (own : List Nat) (i : Nat) : (wipe sv own)[i]? = if i ∈ own then (sv[i]?).map (fun _ => none) else sv[i]? := by
  by_cases h : i ∈ own
  · rw [if_pos h]
    induction own with
    | nil => cases h
    | cons j own ih =>
      unfold wipe
      by_cases z : j = i
      · subst z
        by_cases hl : j < sv.length
        · rw [List.getElem?_set_self (by rw [wipe_length]; exact hl), List.getElem?_eq_getElem hl]
          rfl
        · rw [List.getElem?_eq_none (by rw [List.length_set, wipe_length]; omega), List.getElem?_eq_none (by omega)]
          rfl
      · rw [List.getElem?_set_ne z]
        exact ih (by rcases List.mem_cons.mp h with h | h
                     · exact absurd h.symm z
                     · exact h)
  · rw [if_neg h]
    exact wipe_out h
theorem wipeS_len : ∀ (own : List Nat) (σ : Slots), (wipeS σ own).length = σ.length
  | [], σ => rfl
  | i :: own, σ => by
    unfold wipeS
    rw [wipeS_len own, List.length_set]
theorem wipeS_at : ∀ (own : List Nat) (σ : Slots) (i : Nat) (s : SL), (wipeS σ own)[i]? = some s → s = .no ∨ (i ∉ own ∧ σ[i]? = some s)
  | [], σ, i, s, h => .inr ⟨by simp, h⟩
  | j :: own, σ, i, s, h => by
    unfold wipeS at h
    rcases wipeS_at own (σ.set j .no) i s h with h | ⟨h1, h2⟩
    · exact .inl h
    · by_cases z : j = i
      · subst z
        have hl : j < σ.length := by
          have := (List.getElem?_eq_some_iff.mp h2).1
          simpa using this
        rw [List.getElem?_set_self hl] at h2
        exact .inl (Option.some.inj h2).symm
      · rw [List.getElem?_set_ne z] at h2
        exact .inr ⟨by simp [h1, Ne.symm z], h2⟩
theorem SlotsOk.wipe {K : PySem.W.Frag} {w : World} {F H : Hp} {rho : List Addr} {σ : Slots} {sv : L2.St} (sl : SlotsOk K w F H rho σ sv) (own : List Nat) : SlotsOk K w F H rho (wipeS σ own) (L2.wipe sv own) where
  len := by rw [wipeS_len, wipe_length, sl.len]
  at_ := fun i s e => by
    have hl : i < (L2.wipe sv own).length := by
      rw [wipe_length, ← sl.len, ← wipeS_len own σ]
      exact (List.getElem?_eq_some_iff.mp e).1
    rcases wipeS_at own σ i s e with rfl | ⟨h1, h2⟩
    · exact ⟨_, List.getElem?_eq_getElem hl, trivial⟩
    · obtain ⟨o, e1, ok⟩ := sl.at_ i s h2
      exact ⟨o, by rw [wipe_out h1]; exact e1, ok⟩
  apart := fun i j us ws p e1 e2 e3 e4 => by
    rcases wipeS_at own σ i _ e1 with z | ⟨h1, h2⟩
    · cases z
    · rcases wipeS_at own σ j _ e2 with z | ⟨h3, h4⟩
      · cases z
      · rw [wipe_out h1] at e3
        rw [wipe_out h3] at e4
        exact sl.apart i j us ws p h2 h4 e3 e4
theorem But.wiped {is own : List Nat} {sv sv' : L2.St} (b : But is sv sv') (h : ∀ i ∈ is, i ∈ own) : L2.wipe sv' own = L2.wipe sv own := by
  apply List.ext_getElem? fun i => ?_
  rw [wipe_at, wipe_at]
  by_cases z : i ∈ own
  · rw [if_pos z, if_pos z]
    by_cases hl : i < sv.length
    · rw [List.getElem?_eq_getElem hl, List.getElem?_eq_getElem (by rw [b.1]; exact hl)]
      rfl
    · rw [List.getElem?_eq_none (by rw [b.1]; omega), List.getElem?_eq_none (by omega)]
  · rw [if_neg z, if_neg z]
    exact b.2 i fun y => z (h i y)
theorem wipe_wipe (sv : L2.St) (own : List Nat) : L2.wipe (L2.wipe sv own) own = L2.wipe sv own := by
  apply List.ext_getElem? fun i => ?_
  rw [wipe_at, wipe_at]
  by_cases z : i ∈ own
  · rw [if_pos z, if_pos z]
    cases sv[i]? <;> rfl
  · rw [if_neg z, if_neg z]
theorem drop_cons {α : Type} {us : List α} {i : Nat} {u : α} (h : us[i]? = some u) : us.drop i = u :: us.drop (i + 1) := by
  obtain ⟨hl, rfl⟩ := List.getElem?_eq_some_iff.mp h
  exact List.drop_eq_getElem_cons hl
theorem own_map (ns : List Str) (own : List Nat) : (own.map fun i => (ns.getD i Str.empty, i)).map (·.2) = own := by
  rw [List.map_map]
  exact List.map_id own
/-- the turns of a comprehension keep what the evaluator says -/
theorem lc_turns {K : PySem.W.Frag} {w : World} {mg : Str → Option Value} {own : List Nat} {tg : LT} {cs : LK} {e : LE} {sv : L2.St} {σ : Slots} {F1 H1 : Hp} {rho1 : List Addr} {S1 : Sto} {us : List U} {J : It} {D : Addr} {Q : VK} {E : XK}
    (hsub : ∀ i ∈ tg.slots, i ∈ own) (st1 : St K w F1 H1 rho1 S1) (sl1 : SlotsOk K w F1 H1 rho1 σ sv) (src : Src K w F1 rho1 J us) (hbig : us.length ≤ big) (nD : H1 D = none)
    (q : Post K w mg (relV K w) F1 H1 rho1 (evLc (fun u S2 => match assign tg u (wipeS σ own) with
      | some σ1 => (evC N cf σ1 cs S2).bind fun kk S3 => if kk = true then (evE N cf σ1 e S3).bind fun z S4 => .ok (some z) S4 else .ok none S3
      | none => .bad) us [] S1) Q E) :
    ∃ Wv : Nat → Nat → Hp → Prop, (∃ m, Wv 0 m (upd H1 D (.lst []))) ∧ ∀ i m H, Wv i m H →
      (J.stop i H ∧ Q (.ref D) H) ∨ (J.go i H ∧ ∃ Nx : Hp → Prop, (∀ H', Nx H' → ∃ m', m' < m ∧ Wv (i + 1) m' H') ∧ ∀ x H', J.yld i H x H' → rdG K w tg x (L2.wipe sv own) H' fun s2 H2 => L2.wipe s2 own = L2.wipe sv own ∧ rdK N cf K w mg (fun _ _ _ _ => False) cs s2 H2 fun b H3 =>
        if b = true then rdE N cf K w mg (fun _ _ _ _ => False) e s2 H3 fun y H4 => ∃ acc, H4 D = some (.lst acc) ∧ acc.length < sizeLine ∧ Nx (upd H4 D (.lst (acc ++ [y]))) else Nx H3) := by
  let turn : U → Sto → R (Option U) := fun u S2 => match assign tg u (wipeS σ own) with
      | some σ1 => (evC N cf σ1 cs S2).bind fun kk S3 => if kk = true then (evE N cf σ1 e S3).bind fun z S4 => .ok (some z) S4 else .ok none S3
      | none => .bad
  let Wv : Nat → Nat → Hp → Prop := fun i m Hc => i + m = us.length ∧ ∃ Fc rhoc Sc acc accV, Grow F1 H1 rho1 Fc Hc rhoc ∧ St K w Fc Hc rhoc Sc ∧ Fc D = none ∧ D ∉ rhoc ∧ Hc D = some (.lst accV) ∧ CVs K w Fc rhoc acc accV ∧ acc.length ≤ i ∧
    Post K w mg (relV K w) F1 H1 rho1 (evLc turn (us.drop i) acc Sc) Q E
  refine ⟨Wv, ⟨us.length, by omega, F1, rho1, S1, [], [], Grow.lay nD, st1.lay nD, st1.sub.free nD, st1.new nD, upd_same, .nil, Nat.zero_le _, q⟩, fun i m Hc hw => ?_⟩
  obtain ⟨him, Fc, rhoc, Sc, acc, accV, gc, stc, fD, nrD, hD, ca, hacc, qc⟩ := hw
  cases hu : us[i]? with
  | none =>
    left
    have hi : us.length ≤ i := List.getElem?_eq_none_iff.mp hu
    refine ⟨src.stop i Fc Hc gc.fex stc.sub hi, ?_⟩
    rw [List.drop_eq_nil_of_le hi] at qc
    have g2 : Grow F1 H1 rho1 (upd Fc D (.lst accV)) Hc rhoc := by
      have := gc.froze (o := .lst accV) nD fD
      have e : upd Hc D (.lst accV) = Hc := by
        funext b
        by_cases z : b = D
        · rw [z, upd_same, hD]
        · rw [upd_ne z]
      rw [e] at this
      exact this
    have st2 : St K w (upd Fc D (.lst accV)) Hc rhoc Sc := by
      have := stc.froze (o := .lst accV) fD nrD
      have e : upd Hc D (.lst accV) = Hc := by
        funext b
        by_cases z : b = D
        · rw [z, upd_same, hD]
        · rw [upd_ne z]
      rw [e] at this
      exact this
    exact qc _ _ _ rhoc g2 st2 (.lst upd_same (ca.mono (same_upd fD (Same.refl _)) (Pre.refl _)))
  | some u =>
    right
    have hi : i < us.length := (List.getElem?_eq_some_iff.mp hu).1
    refine ⟨src.go i Fc Hc gc.fex stc.sub hi, fun H' => Wv (i + 1) (m - 1) H', fun H' h => ⟨m - 1, by omega, h⟩, fun x H' hy => ?_⟩
    obtain ⟨F2, g2, s2, k2, cx⟩ := src.yld i u Fc Hc rhoc x H' gc.fex stc.sub gc.rex hu hy
    have st2 := stc.more g2 s2 k2
    have g02 := gc.trans g2
    rw [drop_cons hu] at qc
    have qc' : Post K w mg (relV K w) F1 H1 rho1 ((turn u Sc).bindN fun o S1 => match o with
      | some z => evLc turn (us.drop (i + 1)) (acc ++ [z]) S1
      | none => evLc turn (us.drop (i + 1)) acc S1) Q E := qc
    obtain ⟨f2, n2, h2⟩ := g2.at fD nrD hD
    cases ha : assign tg u (wipeS σ own) with
    | none =>
      simp only [turn, ha, R.bindN_bad] at qc'
      exact qc'.elim
    | some σ1 =>
      simp only [turn, ha, R.bindN_bind] at qc'
      refine ⟨F2, rhoc, Sc, wipeS σ own, u, σ1, st2, ((sl1.grow g02).wipe own), cx, ha, fun F3 H3 sv3 g3 k3 st3 sl3 b3 => ⟨by rw [b3.wiped hsub, wipe_wipe], ?_⟩⟩
      refine ⟨F3, rhoc, σ1, Sc, st3, sl3, (Post.bindN qc').imp fun b H4 ⟨kk, S4, F4, rho4, g4, st4, c4, q4⟩ => ?_⟩
      cases c4
      have g24 := g3.trans g4
      obtain ⟨f4, n4, h4⟩ := g24.at f2 n2 h2
      cases b with
      | false =>
        simp only [Bool.false_eq_true, if_false, R.bindN_ok] at q4 ⊢
        exact ⟨by omega, F4, rho4, S4, acc, accV, g02.trans g24, st4, f4, n4, h4, ca.mono (g2.trans g24).fex (g2.trans g24).rex, by omega, q4⟩
      | true =>
        simp only [if_true, R.bindN_bind, R.bindN_ok] at q4 ⊢
        refine ⟨F4, rho4, σ1, S4, st4, sl3.grow g4, (Post.bindN q4).imp fun y H5 ⟨z, S5, F5, rho5, g5, st5, c5, q5⟩ => ?_⟩
        obtain ⟨f5, n5, h5⟩ := g5.at f4 n4 h4
        have gall := (g2.trans g24).trans g5
        have ca5 := ca.mono gall.fex gall.rex
        refine ⟨accV, h5, ?_, by omega, F5, rho5, S5, acc ++ [z], accV ++ [y], ?_, ?_, f5, n5, upd_same, ca5.append (.cons c5 .nil), by simp; omega, q5⟩
        · have := ca.length
          have hb : big < sizeLine := by decide
          omega
        · have g05 : Grow F1 H1 rho1 F5 H5 rho5 := gc.trans gall
          exact ⟨g05.fex, g05.fnew, g05.rex, g05.rnew, fun a o ea na => by rw [upd_ne (ne_of_none ea nD)]; exact g05.keep a o ea na, fun a ea => by
            by_cases za : a = D
            · subst za; exact nD
            · rw [upd_ne za] at ea; exact g05.dom a ea⟩
        · exact ⟨fun a o ea => by rw [upd_ne (ne_of_none ea f5)]; exact st5.sub a o ea, st5.len, st5.nd, fun n a o e1 e2 => by
            obtain ⟨x1, x2, x3, x4⟩ := st5.sto n a o e1 e2
            have za : a ≠ D := fun za => by
              subst za
              exact n5 (List.mem_of_getElem? e1)
            exact ⟨x1, x2, by rw [upd_ne za]; exact x3, x4⟩⟩
theorem e_lc (ok : XOk N cf k X W) {own : List Nat} {tg : LT} {it : LI} {cs : LK} {e : LE} {elt t iter : Expr} {ifs : List Expr} {scope : Scope} {p : Pos} (ho : ownOk k own scope = true) (hs : setLit iter = false) (hsub : tg.slots.all own.contains = true)
    (hg : ∀ (s : Shared) (H : Hp) (C : Addr) (cl : List (Str × Addr)) (fp : List Addr), PG (X.blk s H scope (compEnvC scope cl C X.env) fp) t (rdG X.K X.w tg))
    (hi : PI X t iter (rdI N cf X.K X.w X.mg W it))
    (ht : ∀ (s : Shared) (H : Hp) (C : Addr) (cl : List (Str × Addr)) (fp : List Addr), PTs (X.blk s H scope (compEnvC scope cl C X.env) fp) ifs (rdK N cf X.K X.w X.mg (fun _ _ _ _ => False) cs))
    (he : ∀ (s : Shared) (H : Hp) (C : Addr) (cl : List (Str × Addr)) (fp : List Addr), PE (X.blk s H scope (compEnvC scope cl C X.env) fp) elt (rdE N cf X.K X.w X.mg (fun _ _ _ _ => False) e)) :
    PE X (.ListComp elt [⟨t, iter, ifs, 0⟩] scope p) (rdE N cf X.K X.w X.mg W (.lc own tg it cs e)) ∧
    ∀ sv H (Q : VK), rdE N cf X.K X.w X.mg W (.lc own tg it cs e) sv H Q → tLc (rdI N cf X.K X.w X.mg W it) (rdG X.K X.w tg) (rdK N cf X.K X.w X.mg (fun _ _ _ _ => False) cs) (rdE N cf X.K X.w X.mg (fun _ _ _ _ => False) e) own sv H Q := by
  have hfold : ∀ x, foldedSetIterable iter X.env x = pure x := fun x => by cases iter <;> first | rfl | cases hs
  have hb : BlkOk X.N X.env.scope scope (own.map fun i => (k.ns.getD i Str.empty, i)) := by
    rw [ok.ns, ok.sc]
    exact blkOk_by ho
  have key : ∀ sv H (Q : VK), rdE N cf X.K X.w X.mg W (.lc own tg it cs e) sv H Q → tLc (rdI N cf X.K X.w X.mg W it) (rdG X.K X.w tg) (rdK N cf X.K X.w X.mg (fun _ _ _ _ => False) cs) (rdE N cf X.K X.w X.mg (fun _ _ _ _ => False) e) own sv H Q := fun sv H Q q => by
    obtain ⟨F, rho, σ, S, st, sl, q⟩ := q
    simp only [evE] at q
    refine ⟨F, rho, σ, S, st, sl, (Post.bind q).imp fun J H1 ⟨us, S1, F1, rho1, g1, st1, src, q1, _⟩ => fun D nD => ?_⟩
    split at q1
    · rename_i hbig
      exact lc_turns (fun i hi => by simpa using List.all_eq_true.mp hsub i hi) st1 (sl.grow g1) src hbig nD q1
    · exact q1.elim
  refine ⟨?_, key⟩
  have := pe_lc (own := own.map fun i => (k.ns.getD i Str.empty, i)) ok.calm ok.nd hi hb hg ht he hfold (pos := p)
  rw [own_map] at this
  exact PE.imp this key
/-! ### walks -/
theorem i_seq {e : LE} {t x : Expr} (h : PE X x (rdE N cf X.K X.w X.mg W e)) : PI X t x (rdI N cf X.K X.w X.mg W (.seq e)) := by
  refine PI.imp (pi_seq h) fun sv H Q q => ?_
  obtain ⟨F, rho, σ, S, st, sl, q⟩ := q
  simp only [evI] at q
  refine ⟨F, rho, σ, S, st, sl, (Post.bind q).imp fun x H1 ⟨u, S1, F1, rho1, g1, st1, c1, q1, _⟩ => ?_⟩
  cases c1 with
  | tup hq cs => exact ⟨_, rfl, .inr ⟨⟨_, same_t st1.sub hq⟩, q1 _ F1 H1 rho1 (Grow.refl _ _ _) st1 (src_tup hq cs)⟩⟩
  | lst hq cs => exact ⟨_, rfl, .inl ⟨⟨_, SqL.of (st1.sub _ _ hq)⟩, q1 _ F1 H1 rho1 (Grow.refl _ _ _) st1 (src_lst (SqL.of hq) cs)⟩⟩
  | _ => exact q1.elim
theorem i_rng1 (ok : XOk N cf k X W) {b : LE} {t y : Expr} {x : Str} {p p2 : Pos} (hx : x = "range") (hg : glB k.sc x = true) (hs : starred y = false) (h : PE X y (rdE N cf X.K X.w X.mg W b)) : PI X t (.Call (.Name x p) [y] [] p2) (rdI N cf X.K X.w X.mg W (.rng1 b)) := by
  subst hx
  obtain ⟨g1, g2, g3⟩ := ok.gl hg
  refine PI.imp (pi_range1 g1 (ok.free _ (by decide +kernel)) (pa_cons h pa_nil (star_cons hs _ _)) (star_cons hs _ _)) fun sv H Q q => ?_
  obtain ⟨F, rho, σ, S, st, sl, q⟩ := q
  simp only [evI] at q
  refine ⟨F, rho, σ, S, st, sl, (Post.bind q).imp fun x H1 ⟨u, S1, F1, rho1, g1, st1, c1, q1, _⟩ => ?_⟩
  cases c1 with
  | int j =>
    simp only at q1
    split at q1
    · rename_i hj
      refine ⟨j, rfl, by omega, by omega, ?_⟩
      have s := src_rng (K := X.K) (w := X.w) (F := F1) (rho := rho1) 0 j
      rw [Int.sub_zero] at s
      exact q1 _ F1 H1 rho1 (Grow.refl _ _ _) st1 s
    · exact q1.elim
  | _ => exact q1.elim
theorem i_rng2 (ok : XOk N cf k X W) {a b : LE} {t y z : Expr} {x : Str} {p p2 : Pos} (hx : x = "range") (hg : glB k.sc x = true) (hs : starred y = false) (hs2 : starred z = false) (h : PE X y (rdE N cf X.K X.w X.mg W a)) (h2 : PE X z (rdE N cf X.K X.w X.mg W b)) :
    PI X t (.Call (.Name x p) [y, z] [] p2) (rdI N cf X.K X.w X.mg W (.rng2 a b)) := by
  subst hx
  obtain ⟨g1, g2, g3⟩ := ok.gl hg
  have e2 : starEach [z] X.env = [(false, eval z X.env)] := star_cons hs2 [] X.env
  refine PI.imp (pi_range2 g1 (ok.free _ (by decide +kernel)) (pa_cons h (pa_cons h2 pa_nil (star_cons hs2 _ _)) (star_cons hs _ _)) (by rw [star_cons hs, e2]) e2) fun sv H Q q => ?_
  obtain ⟨F, rho, σ, S, st, sl, q⟩ := q
  simp only [evI] at q
  refine ⟨F, rho, σ, S, st, sl, (Post.bind q).imp fun x H1 ⟨u, S1, F1, rho1, g1, st1, c1, q1, _⟩ => ?_⟩
  refine ⟨F1, rho1, σ, S1, st1, sl.grow g1, (Post.bind q1).imp fun y H2 ⟨u2, S2, F2, rho2, g2, st2, c2, q2, _⟩ => ?_⟩
  cases c1 with
  | int i =>
    cases c2 with
    | int j =>
      simp only at q2
      split at q2
      · rename_i hj
        exact ⟨i, j, rfl, ⟨by omega, by omega, by omega, by omega⟩, q2 _ F2 H2 rho2 (Grow.refl _ _ _) st2 (src_rng i j)⟩
      · exact q2.elim
    | _ => exact q2.elim
  | _ => cases c2 <;> exact q2.elim
/-! ### all expressions -/
theorem sndB_of {le : LE} {e : Expr} (ok : XOk N cf k X W) (hc : chkE k le e = true) (h : PE X e (rdE N cf X.K X.w X.mg W le)) : PE X e (rdB N cf X.K X.w X.mg W le) := by
  cases le with
  | b i =>
    cases e with
    | Name x p => exact b_var ok (by unfold chkE at hc; exact hc)
    | _ => unfold chkE at hc; cases hc
  | _ => exact e_b h fun _ => rfl
end
mutual
theorem sndE {N : Cn} {cf : CF} : ∀ (le : LE) {k : Ck} {X : Cx} {W : WX} (e : Expr), XOk N cf k X W → chkE k le e = true → PE X e (rdE N cf X.K X.w X.mg W le)
  | .bad, k, X, W, e, ok, h => ⟨fun pins s σ H Q I q => by
      obtain ⟨F, rho, σ, S, st, sl, q⟩ := q
      exact q.elim⟩
  | .c u, k, X, W, e, ok, h => by
    unfold chkE at h
    split at h
    · rw [eq_of_beq h]
      exact PE.imp pe_int fun sv H Q q => by
        obtain ⟨F, rho, σ, S, st, sl, q⟩ := q
        exact q.val st (.int _)
    · rw [eq_of_beq h]
      exact PE.imp pe_bl fun sv H Q q => by
        obtain ⟨F, rho, σ, S, st, sl, q⟩ := q
        exact q.val st (.bl _)
    · rw [eq_of_beq h]
      exact PE.imp pe_str fun sv H Q q => by
        obtain ⟨F, rho, σ, S, st, sl, q⟩ := q
        exact q.val st (.str _)
    · exact PE.imp pe_non fun sv H Q q => by
        obtain ⟨F, rho, σ, S, st, sl, q⟩ := q
        exact q.val st .non
    · cases h
  | .v i, k, X, W, e, ok, h => by
    unfold chkE at h
    split at h
    · exact e_var ok h
    · cases h
  | .b i, k, X, W, e, ok, h => ⟨fun pins s σ H Q I q => by
      obtain ⟨F, rho, σ, S, st, sl, q⟩ := q
      exact q.elim⟩
  | .xf i f, k, X, W, e, ok, h => by unfold chkE at h; cases h
  | .g x, k, X, W, e, ok, h => by
    unfold chkE at h
    split at h
    · obtain ⟨h1, h2⟩ := ba h
      rw [← eq_of_beq h1]
      exact e_g ok h2
    · cases h
  | .op o a b, k, X, W, e, ok, h => by
    unfold chkE at h
    split at h
    · obtain ⟨h1, h2⟩ := ba h
      obtain ⟨h3, h4⟩ := ba h2
      exact e_op h1 (sndB_of ok h3 (sndE a _ ok h3)) (sndB_of ok h4 (sndE b _ ok h4))
    · cases h
  | .neg a, k, X, W, e, ok, h => by
    unfold chkE at h
    split at h
    · exact e_neg (sndE a _ ok h)
    · cases h
  | .cmp o a b, k, X, W, e, ok, h => by
    unfold chkE at h
    split at h
    · obtain ⟨h1, h2⟩ := ba h
      obtain ⟨h3, h4⟩ := ba h2
      obtain ⟨h5, h6⟩ := ba h4
      exact (e_cmp ok h1 (by simpa using h3) (sndB_of ok h5 (sndE a _ ok h5)) (sndB_of ok h6 (sndE b _ ok h6))).1
    · cases h
  | .chn o o' a b c, k, X, W, e, ok, h => by
    unfold chkE at h
    split at h
    · obtain ⟨h1, h2⟩ := ba h
      obtain ⟨h3, h4⟩ := ba h2
      obtain ⟨h5, h6⟩ := ba h4
      obtain ⟨h7, h8⟩ := ba h6
      obtain ⟨h9, h10⟩ := ba h8
      exact (e_chn ok h1 h3 (by simpa using h5) (sndE a _ ok h7) (sndE b _ ok h9) (sndE c _ ok h10)).1
    · cases h
  | .not a, k, X, W, e, ok, h => by
    unfold chkE at h
    split at h
    · exact e_not (sndE a _ ok h)
    · cases h
  | .and a b, k, X, W, e, ok, h => by
    unfold chkE at h
    split at h
    · obtain ⟨h1, h2⟩ := ba h
      exact PE.imp (pe_and (sndE a _ ok h1) (pe_one (sndE b _ ok h2))) fun sv H Q q => vand q
    · obtain ⟨h1, h2⟩ := ba h
      exact PE.imp (pe_and (sndE a _ ok h1) (sndE b _ ok h2)) fun sv H Q q => vand q
    · cases h
  | .or a b, k, X, W, e, ok, h => by
    unfold chkE at h
    split at h
    · obtain ⟨h1, h2⟩ := ba h
      exact PE.imp (pe_or (sndE a _ ok h1) (pe_one (sndE b _ ok h2))) fun sv H Q q => vor q
    · obtain ⟨h1, h2⟩ := ba h
      exact PE.imp (pe_or (sndE a _ ok h1) (sndE b _ ok h2)) fun sv H Q q => vor q
    · cases h
  | .ite t a b, k, X, W, e, ok, h => by
    unfold chkE at h
    split at h
    · obtain ⟨h1, h2⟩ := ba h
      obtain ⟨h3, h4⟩ := ba h2
      exact e_ite (sndC t _ ok h1).pt (sndE a _ ok h3) (sndE b _ ok h4)
    · cases h
  | .tup es, k, X, W, e, ok, h => by
    unfold chkE at h
    split at h
    · exact e_tup (sndEs es _ ok h)
    · cases h
  | .lst es, k, X, W, e, ok, h => by
    unfold chkE at h
    split at h
    · exact e_lst (sndEs es _ ok h)
    · cases h
  | .sto es, k, X, W, e, ok, h => by
    unfold chkE at h
    split at h
    · exact e_sto (sndEs es _ ok h)
    · cases h
  | .dct ks es, k, X, W, e, ok, h => by
    unfold chkE at h
    split at h
    · obtain ⟨h1, h2⟩ := ba h
      obtain ⟨h3, h4⟩ := ba h2
      obtain ⟨h5, h6⟩ := ba h4
      obtain ⟨h7, h8⟩ := ba h6
      exact e_dctL h1 (of_decide_eq_true h3) (by intro z; subst z; cases h5) (of_decide_eq_true h7) h8 (sndL es _ ok h8)
    · cases h
  | .sub a i, k, X, W, e, ok, h => by
    unfold chkE at h
    split at h
    · obtain ⟨h1, h2⟩ := ba h
      obtain ⟨h3, h4⟩ := ba h2
      exact e_sub ok (by simpa using h1) (sndB_of ok h3 (sndE a _ ok h3)) (sndE i _ ok h4)
    · cases h
  | .slc a lo hi, k, X, W, e, ok, h => by
    unfold chkE at h
    split at h
    · obtain ⟨h1, h2⟩ := ba h
      obtain ⟨h3, h4⟩ := ba h2
      exact e_slc (sndB_of ok h1 (sndE a _ ok h1)) (sndO lo _ ok h3) (sndO hi _ ok h4)
    · cases h
  | .fn f a, k, X, W, e, ok, h => by
    unfold chkE at h
    split at h
    · obtain ⟨h1, h2⟩ := ba h
      obtain ⟨h3, h4⟩ := ba h2
      obtain ⟨h5, h6⟩ := ba h4
      exact e_fn ok (eq_of_beq h1) h3 (by simpa using h5) (sndB_of ok h6 (sndE a _ ok h6))
    · cases h
  | .isi a t, k, X, W, e, ok, h => by
    unfold chkE at h
    split at h
    · obtain ⟨h1, h2⟩ := ba h
      obtain ⟨h3, h4⟩ := ba h2
      obtain ⟨h5, h6⟩ := ba h4
      obtain ⟨h7, h8⟩ := ba h6
      obtain ⟨h9, h10⟩ := ba h8
      exact e_isi ok (eq_of_beq h1) h3 (by simpa using h5) (eq_of_beq h7) h9 (sndE a _ ok h10)
    · cases h
  | .isiT a ts, k, X, W, e, ok, h => by
    unfold chkE at h
    split at h
    · obtain ⟨h1, h2⟩ := ba h
      obtain ⟨h3, h4⟩ := ba h2
      obtain ⟨h5, h6⟩ := ba h4
      obtain ⟨h7, h8⟩ := ba h6
      exact e_isiT ok (eq_of_beq h1) h3 (by simpa using h5) h7 (sndE a _ ok h8)
    · cases h
  | .call f es, k, X, W, e, ok, h => by
    unfold chkE at h
    split at h
    · obtain ⟨h1, h2⟩ := ba h
      obtain ⟨h3, h4⟩ := ba h2
      obtain ⟨h5, h6⟩ := ba h4
      exact e_call ok (eq_of_beq h1) h3 (by intro z; subst z; cases h5) h6 (sndEs es _ ok h6)
    · cases h
  | .lc own tg it cs a, k, X, W, e, ok, h => by
    unfold chkE at h
    split at h
    · obtain ⟨h1, h2⟩ := ba h
      obtain ⟨h3, h4⟩ := ba h2
      obtain ⟨h5, h6⟩ := ba h4
      obtain ⟨h7, h8⟩ := ba h6
      obtain ⟨h9, h10⟩ := ba h8
      obtain ⟨h11, h12⟩ := ba h10
      exact (e_lc ok h1 (by simpa using h3) h5 (fun s H C cl fp => g_all ok.blk tg _ h7) (sndI it _ _ ok h9) (fun s H C cl fp => sndK cs _ ok.blk h11) (fun s H C cl fp => sndE a _ ok.blk h12)).1
    · cases h
theorem sndEs {N : Cn} {cf : CF} : ∀ (le : LEs) {k : Ck} {X : Cx} {W : WX} (e : List Expr), XOk N cf k X W → chkEs k le e = true → PA X e (rdEs N cf X.K X.w X.mg W le)
  | .nil, k, X, W, [], ok, h => es_nil
  | .nil, k, X, W, _ :: _, ok, h => by cases h
  | .cons e es, k, X, W, [], ok, h => by cases h
  | .cons e es, k, X, W, x :: xs, ok, h => by
    unfold chkEs at h
    obtain ⟨h1, h2⟩ := ba h
    obtain ⟨h3, h4⟩ := ba h2
    exact es_cons (by simpa using h1) (sndE e x ok h3) (sndEs es xs ok h4)
/-- each of a list -/
theorem sndL {N : Cn} {cf : CF} : ∀ (le : LEs) {k : Ck} {X : Cx} {W : WX} (e : List Expr), XOk N cf k X W → chkEs k le e = true → EachE N cf X W le e
  | .nil, k, X, W, [], ok, h => trivial
  | .nil, k, X, W, _ :: _, ok, h => by cases h
  | .cons e es, k, X, W, [], ok, h => by cases h
  | .cons e es, k, X, W, x :: xs, ok, h => by
    unfold chkEs at h
    obtain ⟨h1, h2⟩ := ba h
    obtain ⟨h3, h4⟩ := ba h2
    exact ⟨sndE e x ok h3, sndL es xs ok h4⟩
theorem sndO {N : Cn} {cf : CF} : ∀ (le : LO) {k : Ck} {X : Cx} {W : WX} (e : Option Expr), XOk N cf k X W → chkO k le e = true → PO X e (rdO N cf X.K X.w X.mg W le)
  | .non, k, X, W, none, ok, h => o_non
  | .non, k, X, W, some _, ok, h => by cases h
  | .som e, k, X, W, none, ok, h => by cases h
  | .som e, k, X, W, some x, ok, h => o_som (sndE e x ok h)
theorem sndC {N : Cn} {cf : CF} : ∀ (le : LC) {k : Ck} {X : Cx} {W : WX} (e : Expr), XOk N cf k X W → chkC k le e = true → PWT X e (rdT N cf X.K X.w X.mg W le)
  | .and a b, k, X, W, e, ok, h => by
    unfold chkC at h
    split at h
    · obtain ⟨h1, h2⟩ := ba h
      exact .w (PW.imp (pw_and (sndC a _ ok h1).pt (pw_and1 (sndC b _ ok h2).pt)) fun sv H Q q => tand q)
    · obtain ⟨h1, h2⟩ := ba h
      exact .w (PW.imp (pw_and (sndC a _ ok h1).pt ((sndC b _ ok h2).pw rfl)) fun sv H Q q => tand q)
    · cases h
  | .or a b, k, X, W, e, ok, h => by
    unfold chkC at h
    split at h
    · obtain ⟨h1, h2⟩ := ba h
      exact .w (PW.imp (pw_or (sndC a _ ok h1).pt (pw_or1 (sndC b _ ok h2).pt)) fun sv H Q q => tor q)
    · obtain ⟨h1, h2⟩ := ba h
      exact .w (PW.imp (pw_or (sndC a _ ok h1).pt ((sndC b _ ok h2).pw rfl)) fun sv H Q q => tor q)
    · cases h
  | .not a, k, X, W, e, ok, h => by
    unfold chkC at h
    split at h
    · exact .t rfl (t_not (sndC a _ ok h).pt)
    · cases h
  | .cmp o a b, k, X, W, e, ok, h => by
    unfold chkC at h
    split at h
    · obtain ⟨h1, h2⟩ := ba h
      obtain ⟨h3, h4⟩ := ba h2
      obtain ⟨h5, h6⟩ := ba h4
      exact .t rfl (e_cmp ok h1 (by simpa using h3) (sndB_of ok h5 (sndE a _ ok h5)) (sndB_of ok h6 (sndE b _ ok h6))).2
    · cases h
  | .chn o o' a b c, k, X, W, e, ok, h => by
    unfold chkC at h
    split at h
    · obtain ⟨h1, h2⟩ := ba h
      obtain ⟨h3, h4⟩ := ba h2
      obtain ⟨h5, h6⟩ := ba h4
      obtain ⟨h7, h8⟩ := ba h6
      obtain ⟨h9, h10⟩ := ba h8
      exact .t rfl (e_chn ok h1 h3 (by simpa using h5) (sndE a _ ok h7) (sndE b _ ok h9) (sndE c _ ok h10)).2
    · cases h
  | .e a, k, X, W, e, ok, h => by
    unfold chkC at h
    obtain ⟨h1, h2⟩ := ba h
    refine .t ?_ (t_plain h1 (sndE a _ ok h2))
    cases e <;> first | rfl | cases h1
theorem sndK {N : Cn} {cf : CF} : ∀ (le : LK) {k : Ck} {X : Cx} {W : WX} (e : List Expr), XOk N cf k X W → chkK k le e = true → PTs X e (rdK N cf X.K X.w X.mg W le)
  | .non, k, X, W, [], ok, h => PTs.imp pts_nil fun sv H Q q => by
    obtain ⟨F, rho, σ, S, st, sl, q⟩ := q
    exact q true F H rho (Grow.refl _ _ _) st rfl
  | .non, k, X, W, _ :: _, ok, h => by cases h
  | .som c, k, X, W, [], ok, h => by cases h
  | .som c, k, X, W, [x], ok, h => PTs.imp (pts_one (sndC c x ok h).pt) fun sv H Q q => q
  | .som c, k, X, W, _ :: _ :: _, ok, h => by cases h
theorem sndI {N : Cn} {cf : CF} : ∀ (le : LI) {k : Ck} {X : Cx} {W : WX} (t e : Expr), XOk N cf k X W → chkI k le e = true → PI X t e (rdI N cf X.K X.w X.mg W le)
  | .seq a, k, X, W, t, e, ok, h => i_seq (sndE a e ok h)
  | .rng1 b, k, X, W, t, e, ok, h => by
    unfold chkI at h
    split at h
    · obtain ⟨h1, h2⟩ := ba h
      obtain ⟨h3, h4⟩ := ba h2
      obtain ⟨h5, h6⟩ := ba h4
      exact i_rng1 ok (eq_of_beq h1) h3 (by simpa using h5) (sndE b _ ok h6)
    · cases h
  | .rng2 a b, k, X, W, t, e, ok, h => by
    unfold chkI at h
    split at h
    · obtain ⟨h1, h2⟩ := ba h
      obtain ⟨h3, h4⟩ := ba h2
      obtain ⟨h5, h6⟩ := ba h4
      obtain ⟨h7, h8⟩ := ba h6
      obtain ⟨h9, h10⟩ := ba h8
      exact i_rng2 ok (eq_of_beq h1) h3 (by simpa using h5) (by simpa using h7) (sndE a _ ok h9) (sndE b _ ok h10)
    · cases h
end
end Far

set_option Elab.async false
set_option linter.all false
set_option maxRecDepth 100000
set_option maxHeartbeats 4000000
/-! Statements. -/
namespace Far
open PySem PySem.Spec PyProof.Rows L2

/-- the state of a body that was entered at F0, H0, rho0 -/
structure FS (K : PySem.W.Frag) (w : World) (F0 H0 : Hp) (rho0 : List Addr) (F H : Hp) (rho : List Addr) (S : Sto) (σ : Slots) (sv : L2.St) : Prop where
  st : St K w F H rho S
  sl : SlotsOk K w F H rho σ sv
  gr : Grow F0 H0 rho0 F H rho
  fr : ∀ (i : Nat) (us : List U) (p : Addr), σ[i]? = some (.own us) → sv[i]? = some (some (.ref p)) → H0 p = none
section
variable {K : PySem.W.Frag} {w : World} {mg : Str → Option Value} {F0 H0 : Hp} {rho0 : List Addr}
theorem FS.grow {F H F' H' : Hp} {rho rho' : List Addr} {S S' : Sto} {σ : Slots} {sv : L2.St} (h : FS K w F0 H0 rho0 F H rho S σ sv) (g : Grow F H rho F' H' rho') (st : St K w F' H' rho' S') : FS K w F0 H0 rho0 F' H' rho' S' σ sv := ⟨st, h.sl.grow g, h.gr.trans g, h.fr⟩
/-- what is wanted behind a statement that was begun with Fs frozen, the store at rs -/
def PostS (K : PySem.W.Frag) (w : World) (mg : Str → Option Value) (F0 H0 : Hp) (rho0 : List Addr) (Fs : Hp) (rs : List Addr) (r : RS) (D : Ends) (W : WX) : Prop := match r with
  | .nx σ S => ∀ F H rho sv, FS K w F0 H0 rho0 F H rho S σ sv → Same Fs F → Pre rs rho → D.nx sv H
  | .rt u S => ∀ v F H rho, Grow F0 H0 rho0 F H rho → St K w F H rho S → CV K w F rho u v → D.rt v H
  | .bk σ S => ∀ F H rho sv, FS K w F0 H0 rho0 F H rho S σ sv → Same Fs F → Pre rs rho → D.bk sv H
  | .ct σ S => ∀ F H rho sv, FS K w F0 H0 rho0 F H rho S σ sv → Same Fs F → Pre rs rho → D.ct sv H
  | .exc x σ S => ∀ c d F H rho sv, FS K w F0 H0 rho0 F H rho S σ sv → Same Fs F → Pre rs rho → XR K w mg F rho x c d → W c d sv H
  | .bad => False
theorem PostS.mono {Fs Fs' : Hp} {rs rs' : List Addr} {r : RS} {D : Ends} {W : WX} (h : PostS K w mg F0 H0 rho0 Fs rs r D W) (e : Same Fs Fs') (p : Pre rs rs') : PostS K w mg F0 H0 rho0 Fs' rs' r D W := by
  cases r with
  | nx σ S => exact fun F H rho sv fs a b => h F H rho sv fs (e.trans a) (p.trans b)
  | rt u S => exact h
  | bk σ S => exact fun F H rho sv fs a b => h F H rho sv fs (e.trans a) (p.trans b)
  | ct σ S => exact fun F H rho sv fs a b => h F H rho sv fs (e.trans a) (p.trans b)
  | exc x σ S => exact fun c d F H rho sv fs a b xr => h c d F H rho sv fs (e.trans a) (p.trans b) xr
  | bad => exact h
theorem PostS.expr {α β : Type} {rel : Hp → Hp → List Addr → α → β → Prop} {F H : Hp} {rho : List Addr} {S : Sto} {σ : Slots} {sv : L2.St} {r : R α} {kk : α → Sto → RS} {D : Ends} {W : WX} (fs : FS K w F0 H0 rho0 F H rho S σ sv) (h : PostS K w mg F0 H0 rho0 F rho (r.then σ kk) D W) :
    Post K w mg rel F H rho r (fun b H1 => ∃ a S1 F1 rho1, FS K w F0 H0 rho0 F1 H1 rho1 S1 σ sv ∧ rel F1 H1 rho1 a b ∧ PostS K w mg F0 H0 rho0 F1 rho1 (kk a S1) D W ∧ Grow F H rho F1 H1 rho1) (WE W sv) := by
  cases r with
  | ok a S1 => exact fun b F' H' rho' g st c => ⟨a, S1, F', rho', fs.grow g st, c, PostS.mono h g.fex g.rex, g⟩
  | exc x S1 => exact fun c d F' H' rho' g st xr => h c d F' H' rho' sv (fs.grow g st) g.fex g.rex xr
  | bad => exact h
end
def rdS (N : Cn) (cf : CF) (K : PySem.W.Frag) (w : World) (mg : Str → Option Value) (F0 H0 : Hp) (rho0 : List Addr) (W : WX) (s : LS) : TS := fun D sv H => ∃ F rho σ S, FS K w F0 H0 rho0 F H rho S σ sv ∧ PostS K w mg F0 H0 rho0 F rho (evS N cf s σ S) D W
def rdSs (N : Cn) (cf : CF) (K : PySem.W.Frag) (w : World) (mg : Str → Option Value) (F0 H0 : Hp) (rho0 : List Addr) (W : WX) (s : LSs) : TS := fun D sv H => ∃ F rho σ S, FS K w F0 H0 rho0 F H rho S σ sv ∧ PostS K w mg F0 H0 rho0 F rho (evSs N cf s σ S) D W
theorem PS.imp {X : Cx} {s : Stmt} {t t' : TS} (h : PS X s t) (q : ∀ D sv H, t' D sv H → t D sv H) : PS X s t' := ⟨fun pins s σ H D I z => h.run pins s σ H D I (q _ _ _ z)⟩
theorem PSs.imp {X : Cx} {s : List Stmt} {t t' : TS} (h : PSs X s t) (q : ∀ D sv H, t' D sv H → t D sv H) : PSs X s t' := ⟨fun pins s σ H D I z => h.run pins s σ H D I (q _ _ _ z)⟩

/-! ### own slots behind an assignment -/
theorem own_set {σ : Slots} {i j : Nat} {u : U} {us : List U} (h : (σ.set i (.val u))[j]? = some (.own us)) : j ≠ i ∧ σ[j]? = some (.own us) := by
  by_cases z : i = j
  · subst z
    have hi : i < σ.length := by
      have := (List.getElem?_eq_some_iff.mp h).1
      simpa using this
    rw [List.getElem?_set_self hi] at h
    cases h
  · rw [List.getElem?_set_ne z] at h
    exact ⟨Ne.symm z, h⟩
theorem own_setAll : ∀ {is : List Nat} {us : List U} {σ : Slots} {j : Nat} {ws : List U}, us.length = is.length → (assign.setAll is us σ)[j]? = some (.own ws) → j ∉ is ∧ σ[j]? = some (.own ws)
  | [], us, σ, j, ws, _, h => by unfold assign.setAll at h; exact ⟨by simp, h⟩
  | i :: is, [], σ, j, ws, l, h => by cases l
  | i :: is, u :: us, σ, j, ws, l, h => by
    unfold assign.setAll at h
    obtain ⟨h1, h2⟩ := own_setAll (by simpa using l) h
    obtain ⟨h3, h4⟩ := own_set h2
    exact ⟨by simp [h1, h3], h4⟩
mutual
theorem own_assign : ∀ {t : LT} {u : U} {σ σ' : Slots} {j : Nat} {ws : List U}, assign t u σ = some σ' → σ'[j]? = some (.own ws) → j ∉ t.slots ∧ σ[j]? = some (.own ws)
  | .nm i, u, σ, σ', j, ws, e, h => by
    unfold assign at e
    cases e
    obtain ⟨h1, h2⟩ := own_set h
    exact ⟨by simpa [LT.slots] using h1, h2⟩
  | .tp ts, u, σ, σ', j, ws, e, h => by
    unfold assign at e
    cases u with
    | tup us =>
      simp only at e
      have := own_assigns e h
      simpa [LT.slots] using this
    | _ => cases e
  | .st is i, u, σ, σ', j, ws, e, h => by
    have key : ∀ us : List U, is.length ≤ us.length → ((assign.setAll is us σ).set i (.val (.lst (us.drop is.length))))[j]? = some (.own ws) → j ∉ (LT.st is i).slots ∧ σ[j]? = some (.own ws) := fun us hl h => by
      obtain ⟨h1, h2⟩ := own_set h
      rw [setAll_take] at h2
      obtain ⟨h3, h4⟩ := own_setAll (by simp; omega) h2
      exact ⟨by simp [LT.slots, h1, h3], h4⟩
    unfold assign at e
    cases u with
    | tup us =>
      simp only at e
      split at e
      · rename_i hl; cases e; exact key us hl h
      · cases e
    | lst us =>
      simp only at e
      split at e
      · rename_i hl; cases e; exact key us hl h
      · cases e
    | _ => cases e
theorem own_assigns : ∀ {ts : List LT} {us : List U} {σ σ' : Slots} {j : Nat} {ws : List U}, assign.assigns ts us σ = some σ' → σ'[j]? = some (.own ws) → j ∉ LT.slotss ts ∧ σ[j]? = some (.own ws)
  | [], [], σ, σ', j, ws, e, h => by
    unfold assign.assigns at e
    cases e
    exact ⟨by simp [LT.slotss], h⟩
  | [], _ :: _, _, _, _, _, e, _ => by unfold assign.assigns at e; cases e
  | _ :: _, [], _, _, _, _, e, _ => by unfold assign.assigns at e; cases e
  | t :: ts, u :: us, σ, σ', j, ws, e, h => by
    unfold assign.assigns at e
    simp only [Option.bind_eq_some_iff] at e
    obtain ⟨σ1, e1, e2⟩ := e
    obtain ⟨h1, h2⟩ := own_assigns e2 h
    obtain ⟨h3, h4⟩ := own_assign e1 h2
    exact ⟨by simp [LT.slotss, h1, h3], h4⟩
end
/-! ### how a tuple is stored -/
def blockK (sc : Scope) : ScopeKind := if sc.kind.isAnnotationScope then .function else sc.kind
def nameAt (sc : Scope) (line : Nat) : Expr → Option Str
  | .Name id pos => if sc.names.lookup id == some .local && pos.line == line then some id else none
  | _ => none
def swapV (sc : Scope) (ts vs : List Expr) : Option (Option (List Str)) :=
  if (!(ts.length == 2 || ts.length == 3) || vs.length != ts.length || blockK sc != .function) = true then some none else
  if vs.any starred = true then some none else
  if ((ts.filterMap (nameAt sc ((ts.head?.map (·.pos.line)).getD 0))).length != ts.length || (ts.filterMap (nameAt sc ((ts.head?.map (·.pos.line)).getD 0))).eraseDups.length != (ts.filterMap (nameAt sc ((ts.head?.map (·.pos.line)).getD 0))).length) = true then some none else
  if vs.all (foldedForSure 8) = true then some none else
  if vs.all (constantsAlone 8) = true then none else some (some (ts.filterMap (nameAt sc ((ts.head?.map (·.pos.line)).getD 0))))
theorem swap_eq (env : Env) (ts vs : List Expr) (n m : Nat) (p q : Pos) : swappedStores [.Tuple ts n p] (.Tuple vs m q) env =
    if (!(ts.length == 2 || ts.length == 3) || vs.length != ts.length || blockK env.scope != .function) = true then pure none else
    if vs.any starred = true then pure none else
    if ((ts.filterMap (nameAt env.scope ((ts.head?.map (·.pos.line)).getD 0))).length != ts.length || (ts.filterMap (nameAt env.scope ((ts.head?.map (·.pos.line)).getD 0))).eraseDups.length != (ts.filterMap (nameAt env.scope ((ts.head?.map (·.pos.line)).getD 0))).length) = true then pure none else
    if vs.all (foldedForSure 8) = true then pure none else
    if vs.all (constantsAlone 8) = true then (unsupported "assign.tuple-of-constant-expressions:order-of-the-stores") else pure (some (ts.filterMap (nameAt env.scope ((ts.head?.map (·.pos.line)).getD 0)))) := rfl
theorem swapV_ok {env : Env} {sc : Scope} (hsc : env.scope = sc) {ts vs : List Expr} {n m : Nat} {p q : Pos} {r : Option (List Str)} (h : swapV sc ts vs = some r) : swappedStores [.Tuple ts n p] (.Tuple vs m q) env = pure r := by
  subst hsc
  rw [swap_eq]
  unfold swapV at h
  split at h
  · rename_i h1
    cases h
    rw [if_pos h1]
  · rename_i h1
    rw [if_neg h1]
    split at h
    · rename_i h2
      cases h
      rw [if_pos h2]
    · rename_i h2
      rw [if_neg h2]
      split at h
      · rename_i h3
        cases h
        rw [if_pos h3]
      · rename_i h3
        rw [if_neg h3]
        split at h
        · rename_i h4
          cases h
          rw [if_pos h4]
        · rename_i h4
          rw [if_neg h4]
          split at h
          · cases h
          · rename_i h5
            cases h
            rw [if_neg h5]
/-- no swapped stores -/
def noSwap (sc : Scope) (tg v : Expr) : Bool := match tg, v with
  | .Tuple ts _ _, .Tuple vs _ _ => (swapV sc ts vs).any (·.isNone)
  | .List _ _, .Tuple _ _ _ => false
  | _, _ => true
theorem noSwap_ok {env : Env} {sc : Scope} (hsc : env.scope = sc) {tg v : Expr} (h : noSwap sc tg v = true) : swappedStores [tg] v env = pure none := by
  cases tg with
  | Tuple ts n p =>
    cases v with
    | Tuple vs m q =>
      have h' : (swapV sc ts vs).any (·.isNone) = true := h
      cases e : swapV sc ts vs with
      | none => rw [e] at h'; cases h'
      | some r =>
        rw [e] at h'
        cases r with
        | none => exact swapV_ok hsc e
        | some x => cases h'
    | _ => rfl
  | List ts p =>
    cases v with
    | Tuple vs m q => cases h
    | _ => rfl
  | _ => rfl
def comp : Expr → Bool
  | .ListComp .. => true
  | .SetComp .. => true
  | .DictComp .. => true
  | _ => false
theorem sw_plain {v : Expr} (h : comp v = false) (t : Option Expr) (l : Nat) (env : Env) : swapsWith v t l env = pure false := by
  cases v <;> first | rfl | cases h
theorem sws_plain {v : Expr} (h : comp v = false) (t : Expr) (l : Nat) (env : Env) : swapsWithSole [t] v l env = pure false := sw_plain h _ _ _
section
variable {N : Cn} {cf : CF} {k : Ck} {X : Cx} {W : WX} {F0 H0 : Hp} {rho0 : List Addr}
theorem each_one {tg : Expr} (h : starred tg = false) (env : Env) : (assignEach [tg] env).map (·.2) = [PySem.assign tg env] := by
  rw [each_cons h]
  rfl
/-- the state behind an assignment -/
theorem FS.assign {K : PySem.W.Frag} {w : World} {F H F' H' : Hp} {rho : List Addr} {S : Sto} {σ σ' : Slots} {sv sv' : L2.St} {t : LT} {u : U} (fs : FS K w F0 H0 rho0 F H rho S σ sv) (e : Far.assign t u σ = some σ') (g : Grow F H rho F' H' rho) (st : St K w F' H' rho S) (sl : SlotsOk K w F' H' rho σ' sv') (b : But t.slots sv sv') :
    FS K w F0 H0 rho0 F' H' rho S σ' sv' := ⟨st, sl, fs.gr.trans g, fun i us p h1 h2 => by
      obtain ⟨h3, h4⟩ := own_assign e h1
      rw [b.2 i h3] at h2
      exact fs.fr i us p h4 h2⟩
theorem s_asg {t : LT} {e : LE} {tg v : Expr} {p : Pos} (hst : starred tg = false) (hc : comp v = false) (hw : noSwap k.sc tg v = true) (ok : XOk N cf k X W) (he : PE X v (rdE N cf X.K X.w X.mg W e)) (hg : PG X tg (rdG X.K X.w t)) :
    PS X (.Assign [tg] v p) (rdS N cf X.K X.w X.mg F0 H0 rho0 W (.asg t e)) := by
  refine PS.imp (ps_asg he hg (sws_plain hc _ _ _) (noSwap_ok ok.sc hw) (each_one hst _)) fun D sv H q => ?_
  obtain ⟨F, rho, σ, S, fs, q⟩ := q
  simp only [evS] at q
  refine ⟨F, rho, σ, S, fs.st, fs.sl, (q.expr fs).imp fun x H1 ⟨u, S1, F1, rho1, fs1, c1, q1, _⟩ => ?_⟩
  cases ea : Far.assign t u σ with
  | none => rw [ea] at q1; exact q1.elim
  | some σ' =>
    rw [ea] at q1
    exact ⟨F1, rho1, S1, σ, u, σ', fs1.st, fs1.sl, c1, ea, fun F' H' sv' g kk st sl b => q1 F' H' rho1 sv' (fs1.assign ea g st sl b) g.fex g.rex⟩
theorem s_ex {e : LE} {v : Expr} {p : Pos} (hc : comp v = false) (he : PE X v (rdE N cf X.K X.w X.mg W e)) : PS X (.Expr v p) (rdS N cf X.K X.w X.mg F0 H0 rho0 W (.ex e)) := by
  refine PS.imp (ps_expr he (sw_plain hc _ _ _)) fun D sv H q => ?_
  obtain ⟨F, rho, σ, S, fs, q⟩ := q
  simp only [evS] at q
  exact ⟨F, rho, σ, S, fs.st, fs.sl, (q.expr fs).imp fun x H1 ⟨u, S1, F1, rho1, fs1, c1, q1, _⟩ => q1 F1 H1 rho1 sv fs1 (Same.refl _) (Pre.refl _)⟩
theorem s_ret {e : LE} {v : Expr} {p : Pos} (he : PE X v (rdE N cf X.K X.w X.mg W e)) : PS X (.Return (some v) p) (rdS N cf X.K X.w X.mg F0 H0 rho0 W (.ret e)) := by
  refine PS.imp (ps_ret he) fun D sv H q => ?_
  obtain ⟨F, rho, σ, S, fs, q⟩ := q
  simp only [evS] at q
  exact ⟨F, rho, σ, S, fs.st, fs.sl, (q.expr fs).imp fun x H1 ⟨u, S1, F1, rho1, fs1, c1, q1, _⟩ => q1 x F1 H1 rho1 fs1.gr fs1.st c1⟩
theorem s_ite {t : LC} {a b : LSs} {c : Expr} {x y : List Stmt} {p : Pos} (hc : PT X c (rdT N cf X.K X.w X.mg W t)) (ha : PSs X x (rdSs N cf X.K X.w X.mg F0 H0 rho0 W a)) (hb : PSs X y (rdSs N cf X.K X.w X.mg F0 H0 rho0 W b)) :
    PS X (.If c x y p) (rdS N cf X.K X.w X.mg F0 H0 rho0 W (.ite t a b)) := by
  refine PS.imp (ps_if hc ha hb) fun D sv H q => ?_
  obtain ⟨F, rho, σ, S, fs, q⟩ := q
  simp only [evS] at q
  refine ⟨F, rho, σ, S, fs.st, fs.sl, (q.expr fs).imp fun x H1 ⟨u, S1, F1, rho1, fs1, c1, q1, _⟩ => ?_⟩
  cases c1
  cases x with
  | true => exact ite_tt ⟨F1, rho1, σ, S1, fs1, q1⟩
  | false => exact ite_ff ⟨F1, rho1, σ, S1, fs1, q1⟩
theorem ss_nil : PSs X [] (rdSs N cf X.K X.w X.mg F0 H0 rho0 W .nil) := PSs.imp pss_nil fun D sv H q => by
  obtain ⟨F, rho, σ, S, fs, q⟩ := q
  exact q F H rho sv fs (Same.refl _) (Pre.refl _)
theorem ss_cons {s : LS} {ss : LSs} {x : Stmt} {xs : List Stmt} (h : PS X x (rdS N cf X.K X.w X.mg F0 H0 rho0 W s)) (hs : PSs X xs (rdSs N cf X.K X.w X.mg F0 H0 rho0 W ss)) : PSs X (x :: xs) (rdSs N cf X.K X.w X.mg F0 H0 rho0 W (.cons s ss)) := by
  refine PSs.imp (pss_cons h hs) fun D sv H q => ?_
  obtain ⟨F, rho, σ, S, fs, q⟩ := q
  simp only [evSs] at q
  refine ⟨F, rho, σ, S, fs, ?_⟩
  cases e : evS N cf s σ S with
  | nx σ1 S1 =>
    rw [e] at q
    exact fun F1 H1 rho1 sv1 fs1 e p => ⟨F1, rho1, σ1, S1, fs1, PostS.mono q e p⟩
  | rt u S1 => rw [e] at q; exact q
  | bk σ1 S1 => rw [e] at q; exact q
  | ct σ1 S1 => rw [e] at q; exact q
  | exc x σ1 S1 => rw [e] at q; exact q
  | bad => rw [e] at q; exact q
/-! ### loops -/
theorem s_loop (ok : XOk N cf k X W) (hp : PassesOwn (model X.prog X.w) X.A X.env X.xe) {t : LT} {it : LI} {body : LSs} {tg iter : Expr} {xs : List Stmt} {p : Pos} (hs : setLit iter = false) (hi : PI X tg iter (rdI N cf X.K X.w X.mg W it)) (hg : PG X tg (rdG X.K X.w t))
    (hb : PSs X xs (rdSs N cf X.K X.w X.mg F0 H0 rho0 W body)) : PS X (.For tg iter xs [] p) (rdS N cf X.K X.w X.mg F0 H0 rho0 W (.loop t it body)) := by
  have hfold : ∀ x, foldedSetIterable iter X.env x = pure x := fun x => by cases iter <;> first | rfl | cases hs
  refine PS.imp (ps_for hp ok.calm hi hg hb hfold) fun D sv H q => ?_
  obtain ⟨F, rho, σ, S, fs, q⟩ := q
  simp only [evS] at q
  refine ⟨F, rho, σ, S, fs.st, fs.sl, (q.expr fs).imp fun J H1 ⟨us, S1, F1, rho1, fs1, src, q1, _⟩ => ?_⟩
  let turn : U → Slots → Sto → RS := fun u σ S => match Far.assign t u σ with
    | some σ1 => evSs N cf body σ1 S
    | none => .bad
  let Wv : Nat → Nat → L2.St → Hp → Prop := fun i m sv H => i + m = us.length ∧ ∃ Fc rhoc σc Sc, FS X.K X.w F0 H0 rho0 Fc H rhoc Sc σc sv ∧ Same F1 Fc ∧ Pre rho1 rhoc ∧ PostS X.K X.w X.mg F0 H0 rho0 F1 rho1 (evFor turn (us.drop i) σc Sc) D W
  refine ⟨Wv, ⟨us.length, by omega, F1, rho1, σ, S1, fs1, Same.refl _, Pre.refl _, q1⟩, fun i m svc Hc hw => ?_⟩
  obtain ⟨him, Fc, rhoc, σc, Sc, fsc, sF, pR, qc⟩ := hw
  cases hu : us[i]? with
  | none =>
    left
    have hi : us.length ≤ i := List.getElem?_eq_none_iff.mp hu
    rw [List.drop_eq_nil_of_le hi] at qc
    exact ⟨src.stop i Fc Hc sF fsc.st.sub hi, qc Fc Hc rhoc svc fsc sF pR⟩
  | some u =>
    right
    have hi : i < us.length := (List.getElem?_eq_some_iff.mp hu).1
    refine ⟨src.go i Fc Hc sF fsc.st.sub hi, fun s H => Wv (i + 1) (m - 1) s H, fun s H h => ⟨m - 1, by omega, h⟩, fun x H' hy => ?_⟩
    obtain ⟨F2, g2, s2, k2, cx⟩ := src.yld i u Fc Hc rhoc x H' sF fsc.st.sub pR hu hy
    have st2 := fsc.st.more g2 s2 k2
    have fs2 := fsc.grow g2 st2
    rw [drop_cons hu] at qc
    have qc' : PostS X.K X.w X.mg F0 H0 rho0 F1 rho1 (match turn u σc Sc with
      | .nx σ1 S1 => evFor turn (us.drop (i + 1)) σ1 S1
      | .ct σ1 S1 => evFor turn (us.drop (i + 1)) σ1 S1
      | .bk σ1 S1 => .nx σ1 S1
      | r => r) D W := qc
    cases ha : Far.assign t u σc with
    | none =>
      simp only [turn, ha] at qc'
      exact qc'.elim
    | some σ1 =>
      simp only [turn, ha] at qc'
      refine ⟨F2, rhoc, Sc, σc, u, σ1, st2, fs2.sl, cx, ha, fun F3 H3 sv3 g3 k3 st3 sl3 b3 => ?_⟩
      have fs3 := fs2.assign ha g3 st3 sl3 b3
      refine ⟨F3, rhoc, σ1, Sc, fs3, ?_⟩
      have sF3 : Same F1 F3 := (sF.trans g2.fex).trans g3.fex
      cases er : evSs N cf body σ1 Sc with
      | nx σ4 S4 =>
        rw [er] at qc'
        intro F4 H4 rho4 sv4 fs4 e4 p4
        exact ⟨by omega, F4, rho4, σ4, S4, fs4, sF3.trans e4, pR.trans p4, qc'⟩
      | ct σ4 S4 =>
        rw [er] at qc'
        intro F4 H4 rho4 sv4 fs4 e4 p4
        exact ⟨by omega, F4, rho4, σ4, S4, fs4, sF3.trans e4, pR.trans p4, qc'⟩
      | bk σ4 S4 => rw [er] at qc'; exact fun F4 H4 rho4 sv4 fs4 e4 p4 => qc' F4 H4 rho4 sv4 fs4 (sF3.trans e4) (pR.trans p4)
      | rt u4 S4 => rw [er] at qc'; exact qc'
      | exc x4 σ4 S4 => rw [er] at qc'; exact fun c d F4 H4 rho4 sv4 fs4 e4 p4 xr => qc' c d F4 H4 rho4 sv4 fs4 (sF3.trans e4) (pR.trans p4) xr
      | bad => rw [er] at qc'; exact qc'
theorem s_whl (hp : PassesOwn (model X.prog X.w) X.A X.env X.xe) {t : LC} {body : LSs} {c : Expr} {xs : List Stmt} {p : Pos} (hc : PT X c (rdT N cf X.K X.w X.mg W t)) (hb : PSs X xs (rdSs N cf X.K X.w X.mg F0 H0 rho0 W body)) :
    PS X (.While c xs [] p) (rdS N cf X.K X.w X.mg F0 H0 rho0 W (.whl t body)) := by
  refine PS.imp (ps_while hp hc hb) fun D sv H q => ?_
  obtain ⟨F, rho, σ, S, fs, q⟩ := q
  simp only [evS] at q
  let tst : Slots → Sto → R Bool := fun σ S => evT N cf σ t S
  let bdy : Slots → Sto → RS := fun σ S => evSs N cf body σ S
  let Wv : Nat → L2.St → Hp → Prop := fun m sv H => ∃ Fc rhoc σc Sc, FS X.K X.w F0 H0 rho0 Fc H rhoc Sc σc sv ∧ PostS X.K X.w X.mg F0 H0 rho0 Fc rhoc (evWhl tst bdy m σc Sc) D W
  refine ⟨Wv, ⟨whileFuel, F, rho, σ, S, fs, q⟩, fun m svc Hc hw => ?_⟩
  obtain ⟨Fc, rhoc, σc, Sc, fsc, qc⟩ := hw
  cases m with
  | zero => exact qc.elim
  | succ m =>
    have qc2 : PostS X.K X.w X.mg F0 H0 rho0 Fc rhoc ((tst σc Sc).then σc fun k S1 => if k = true then (match bdy σc S1 with
      | .nx σ1 S2 => evWhl tst bdy m σ1 S2
      | .ct σ1 S2 => evWhl tst bdy m σ1 S2
      | .bk σ1 S2 => .nx σ1 S2
      | r => r) else .nx σc S1) D W := qc
    refine ⟨Fc, rhoc, σc, Sc, fsc.st, fsc.sl, (qc2.expr fsc).imp fun x H1 ⟨u, S1, F1, rho1, fs1, c1, q1, _⟩ => ?_⟩
    cases c1
    cases x with
    | false =>
      simp only [Bool.false_eq_true, if_false] at q1 ⊢
      exact q1 F1 H1 rho1 svc fs1 (Same.refl _) (Pre.refl _)
    | true =>
      simp only [if_true] at q1 ⊢
      refine ⟨fun s H => Wv m s H, fun s H h => ⟨m, by omega, h⟩, F1, rho1, σc, S1, fs1, ?_⟩
      simp only [bdy] at q1
      cases er : evSs N cf body σc S1 with
      | nx σ4 S4 =>
        rw [er] at q1
        exact fun F4 H4 rho4 sv4 fs4 e4 p4 => ⟨F4, rho4, σ4, S4, fs4, PostS.mono q1 e4 p4⟩
      | ct σ4 S4 =>
        rw [er] at q1
        exact fun F4 H4 rho4 sv4 fs4 e4 p4 => ⟨F4, rho4, σ4, S4, fs4, PostS.mono q1 e4 p4⟩
      | bk σ4 S4 => rw [er] at q1; exact q1
      | rt u4 S4 => rw [er] at q1; exact q1
      | exc x4 σ4 S4 => rw [er] at q1; exact q1
      | bad => rw [er] at q1; exact q1
/-! ### a thing of the store changes -/
theorem nodup_at {α : Type} : ∀ {l : List α} {m n : Nat} {a : α}, l.Nodup → l[m]? = some a → l[n]? = some a → m = n
  | [], m, n, a, _, h, _ => by simp at h
  | x :: l, 0, 0, a, _, _, _ => rfl
  | x :: l, 0, n + 1, a, nd, h1, h2 => by
    simp at h1 h2
    subst h1
    exact absurd (List.mem_of_getElem? h2) (List.nodup_cons.mp nd).1
  | x :: l, m + 1, 0, a, nd, h1, h2 => by
    simp at h1 h2
    subst h2
    exact absurd (List.mem_of_getElem? h1) (List.nodup_cons.mp nd).1
  | x :: l, m + 1, n + 1, a, nd, h1, h2 => by
    have := nodup_at (List.nodup_cons.mp nd).2 (by simpa using h1) (by simpa using h2)
    omega
theorem FS.write {K : PySem.W.Frag} {w : World} {F H : Hp} {rho : List Addr} {S : Sto} {σ : Slots} {sv : L2.St} {n : Nat} {a : Addr} {o : SO} {ho : HO} (fs : FS K w F0 H0 rho0 F H rho S σ sv) (ha : rho[n]? = some a) (ok : SOk K w F rho o ho) :
    FS K w F0 H0 rho0 F (upd H a ho) rho (S.set n o) σ sv := by
  have hm : a ∈ rho := List.mem_of_getElem? ha
  obtain ⟨fa, x, ha2⟩ := fs.st.mem hm
  refine ⟨⟨fun b u e => by rw [upd_ne (ne_of_none e fa)]; exact fs.st.sub b u e, by rw [List.length_set]; exact fs.st.len, fs.st.nd, fun m b q e1 e2 => ?_⟩, ⟨fs.sl.len, fun i s e => ?_, fs.sl.apart⟩, ⟨fs.gr.fex, fs.gr.fnew, fs.gr.rex, fs.gr.rnew, fun b u e nb => ?_, fun b e => ?_⟩, fs.fr⟩
  · by_cases z : m = n
    · subst z
      rw [ha] at e1
      cases e1
      have hl : m < S.length := by
        have := (List.getElem?_eq_some_iff.mp e2).1
        simpa using this
      rw [List.getElem?_set_self hl] at e2
      cases e2
      exact ⟨fa, ho, upd_same, ok⟩
    · rw [List.getElem?_set_ne (Ne.symm z)] at e2
      obtain ⟨f1, x1, e3, e4⟩ := fs.st.sto m b q e1 e2
      have zb : b ≠ a := fun zb => by
        subst zb
        exact z (nodup_at fs.st.nd e1 ha)
      exact ⟨f1, x1, by rw [upd_ne zb]; exact e3, e4⟩
  · obtain ⟨v, e1, k1⟩ := fs.sl.at_ i s e
    refine ⟨v, e1, ?_⟩
    cases s with
    | no => trivial
    | val u => exact k1
    | own us =>
      obtain ⟨p, vs, ep, f, np, hp, c⟩ := k1
      have zp : p ≠ a := fun z => np (z ▸ hm)
      exact ⟨p, vs, ep, f, np, by rw [upd_ne zp]; exact hp, c⟩
  · have zb : b ≠ a := fun z => by
      subst z
      rcases fs.gr.rnew b hm with y | y
      · exact nb y
      · rw [e] at y; cases y
    rw [upd_ne zb]
    exact fs.gr.keep b u e nb
  · by_cases z : b = a
    · subst z; rw [upd_same] at e; cases e
    · rw [upd_ne z] at e; exact fs.gr.dom b e
theorem s_setI {o i e : LE} {x y v : Expr} {p p2 : Pos} (hc : comp v = false) (hsl : sliced y = false) (ho : PE X x (rdE N cf X.K X.w X.mg W o)) (hi : PE X y (rdE N cf X.K X.w X.mg W i)) (he : PE X v (rdE N cf X.K X.w X.mg W e)) :
    PS X (.Assign [.Subscript x y p2] v p) (rdS N cf X.K X.w X.mg F0 H0 rho0 W (.setI o i e)) := by
  refine PS.imp (ps_asg he (pg_sub ho hi set_list fun u => by cases y <;> first | rfl | cases hsl) (sws_plain hc _ _ _) rfl rfl) fun D sv H q => ?_
  obtain ⟨F, rho, σ, S, fs, q⟩ := q
  simp only [evS] at q
  refine ⟨F, rho, σ, S, fs.st, fs.sl, (q.expr fs).imp fun v H1 ⟨u, S1, F1, rho1, fs1, c1, q1, _⟩ => ?_⟩
  refine ⟨F1, rho1, σ, S1, fs1.st, fs1.sl, (q1.expr fs1).imp fun ov H2 ⟨ou, S2, F2, rho2, fs2, c2, q2, g2⟩ => ?_⟩
  refine ⟨F2, rho2, σ, S2, fs2.st, fs2.sl, (q2.expr fs2).imp fun iv H3 ⟨iu, S3, F3, rho3, fs3, c3, q3, g3⟩ => ?_⟩
  have c1' := c1.mono (g2.trans g3).fex (g2.trans g3).rex
  have c2' := c2.mono g3.fex g3.rex
  cases c2' with
  | @ref n a hn =>
    cases c3 with
    | int j =>
      obtain ⟨so, ho, e1, f1, e2, okk⟩ := fs3.st.at hn
      cases so with
      | lst us =>
        obtain ⟨vs, rfl, cs⟩ := okk
        simp only [stoSet, e1] at q3
        cases hj : ixN us.length j with
        | none => rw [hj] at q3; exact q3.elim
        | some jj =>
          rw [hj] at q3
          refine ⟨a, vs, j, jj, rfl, rfl, e2, by rw [← cs.length]; exact hj, ?_⟩
          exact q3 F3 _ rho3 sv (fs3.write hn ⟨_, rfl, cs.set c1' jj⟩) (Same.refl _) (Pre.refl _)
    | _ => simp only [stoSet] at q3; exact q3.elim
  | _ => simp only [stoSet] at q3; exact q3.elim
theorem s_brk {p : Pos} : PS X (.Break p) (rdS N cf X.K X.w X.mg F0 H0 rho0 W .brk) := PS.imp ps_break fun D sv H q => by
  obtain ⟨F, rho, σ, S, fs, q⟩ := q
  exact q F H rho sv fs (Same.refl _) (Pre.refl _)
theorem s_cnt {p : Pos} : PS X (.Continue p) (rdS N cf X.K X.w X.mg F0 H0 rho0 W .cnt) := PS.imp ps_continue fun D sv H q => by
  obtain ⟨F, rho, σ, S, fs, q⟩ := q
  exact q F H rho sv fs (Same.refl _) (Pre.refl _)
theorem s_pss {p : Pos} : PS X (.Pass p) (rdS N cf X.K X.w X.mg F0 H0 rho0 W .pss) := PS.imp ps_pass fun D sv H q => by
  obtain ⟨F, rho, σ, S, fs, q⟩ := q
  exact q F H rho sv fs (Same.refl _) (Pre.refl _)
/-- x = [.. for ..], x a local -/
theorem s_lc (ok : XOk N cf k X W) {i : Nat} {own : List Nat} {tg : LT} {it : LI} {cs : LK} {e : LE} {elt t iter : Expr} {ifs : List Expr} {scope : Scope} {p p2 p3 : Pos} {x : Str} (hx : k.ns[i]? = some x) (hxl : k.sc.names.lookup x = some .local) (hk : k.sc.kind = .function) (hl : (p2.line == p.line) = true)
    (hn : (scope.names.any fun (n, kk) => n == x && (kk == .local || kk == .cell)) = false) (ho : ownOk k own scope = true) (hs : setLit iter = false) (hsub : tg.slots.all own.contains = true)
    (hg : ∀ (s : Shared) (H : Hp) (C : Addr) (cl : List (Str × Addr)) (fp : List Addr), PG (X.blk s H scope (compEnvC scope cl C X.env) fp) t (rdG X.K X.w tg))
    (hi : PI X t iter (rdI N cf X.K X.w X.mg W it))
    (ht : ∀ (s : Shared) (H : Hp) (C : Addr) (cl : List (Str × Addr)) (fp : List Addr), PTs (X.blk s H scope (compEnvC scope cl C X.env) fp) ifs (rdK N cf X.K X.w X.mg (fun _ _ _ _ => False) cs))
    (he : ∀ (s : Shared) (H : Hp) (C : Addr) (cl : List (Str × Addr)) (fp : List Addr), PE (X.blk s H scope (compEnvC scope cl C X.env) fp) elt (rdE N cf X.K X.w X.mg (fun _ _ _ _ => False) e)) :
    PS X (.Assign [.Name x p2] (.ListComp elt [⟨t, iter, ifs, 0⟩] scope p) p3) (rdS N cf X.K X.w X.mg F0 H0 rho0 W (.asg (.nm i) (.lc own tg it cs e))) := by
  have hfold : ∀ x, foldedSetIterable iter X.env x = pure x := fun x => by cases iter <;> first | rfl | cases hs
  have hb : BlkOk X.N X.env.scope scope (own.map fun i => (k.ns.getD i Str.empty, i)) := by
    rw [ok.ns, ok.sc]
    exact blkOk_by ho
  have hxl' : X.env.scope.names.lookup x = some .local := by rw [ok.sc]; exact hxl
  have hk' : X.env.scope.kind = .function := by rw [ok.sc]; exact hk
  have hx' : X.N[i]? = some x := by rw [ok.ns]; exact hx
  have key := (e_lc (W := W) ok (p := p) ho hs hsub hg hi ht he).2
  have := ps_setLc (own := own.map fun i => (k.ns.getD i Str.empty, i)) (pos := p) (spos := p3) (py := p2) ok.calm ok.nd hx' hxl' (sw_true hk' hxl' hl hn) hi hb hg ht he hfold
  rw [own_map] at this
  refine PS.imp this fun D sv H q => key sv H _ ?_
  obtain ⟨F, rho, σ, S, fs, q⟩ := q
  unfold evS at q
  refine ⟨F, rho, σ, S, fs.st, fs.sl, (q.expr fs).imp fun v H1 ⟨u, S1, F1, rho1, fs1, c1, q1, _⟩ => ?_⟩
  have ea : Far.assign (.nm i) u σ = some (σ.set i (.val u)) := by unfold Far.assign; rfl
  rw [ea] at q1
  exact q1 F1 H1 rho1 _ (fs1.assign ea (Grow.refl _ _ _) fs1.st (set_slots fs1.sl c1) (But.set _ _ _)) (Same.refl _) (Pre.refl _)
/-- a, b = x, y stored from the right -/
theorem setVals_ok {K : PySem.W.Frag} {w : World} {F H : Hp} {rho : List Addr} {S : Sto} : ∀ {is : List Nat} {us : List U} {vs : List V} {σ σ' : Slots} {sv : L2.St}, FS K w F0 H0 rho0 F H rho S σ sv → CVs K w F rho us vs → setVals is us σ = some σ' → FS K w F0 H0 rho0 F H rho S σ' (setV is vs sv) ∧ is.length = vs.length
  | [], _, _, σ, σ', sv, fs, .nil, e => by
    unfold setVals at e
    cases e
    exact ⟨fs, rfl⟩
  | [], _, _, σ, σ', sv, fs, .cons _ _, e => by unfold setVals at e; cases e
  | i :: is, _, _, σ, σ', sv, fs, .nil, e => by unfold setVals at e; cases e
  | i :: is, _, _, σ, σ', sv, fs, .cons (u := u) (v := v) c cs, e => by
    unfold setVals at e
    have ea : Far.assign (.nm i) u σ = some (σ.set i (.val u)) := by unfold Far.assign; rfl
    have fs' := fs.assign ea (Grow.refl _ _ _) fs.st (set_slots fs.sl c) (But.set i sv (some v))
    obtain ⟨h1, h2⟩ := setVals_ok fs' cs e
    exact ⟨h1, by simp [h2]⟩
theorem s_par2 (ok : XOk N cf k X W) {i j : Nat} {es : LEs} {x y : Str} {a b : Expr} {px py pt p2 p : Pos} {n m : Nat} (hx : k.ns[i]? = some x) (hy : k.ns[j]? = some y) (hij : i ≠ j) (lx : k.sc.names.lookup x = some .local) (ly : k.sc.names.lookup y = some .local)
    (hw : swapV k.sc [.Name x px, .Name y py] [a, b] = some (some [x, y])) (h : PA X [a, b] (rdEs N cf X.K X.w X.mg W es)) :
    PS X (.Assign [.Tuple [.Name x px, .Name y py] n pt] (.Tuple [a, b] m p2) p) (rdS N cf X.K X.w X.mg F0 H0 rho0 W (.par [i, j] es)) := by
  rw [← ok.ns] at hx hy
  rw [← ok.sc] at lx ly
  refine PS.imp (ps_par ok.calm ok.nd hx hy hij lx ly h (swapV_ok ok.sc hw) rfl) fun D sv H q => ?_
  obtain ⟨F, rho, σ, S, fs, q⟩ := q
  simp only [evS] at q
  refine ⟨F, rho, σ, S, fs.st, fs.sl, (q.expr fs).imp fun vs H1 ⟨us, S1, F1, rho1, fs1, c1, q1, _⟩ => ?_⟩
  cases es' : setVals [i, j] us σ with
  | none => rw [es'] at q1; exact q1.elim
  | some σ' =>
    rw [es'] at q1
    obtain ⟨fs2, hl⟩ := setVals_ok fs1 c1 es'
    match vs, hl with
    | [v, w'], _ => exact ⟨v, w', rfl, q1 F1 H1 rho1 _ fs2 (Same.refl _) (Pre.refl _)⟩
theorem s_par3 (ok : XOk N cf k X W) {i j l : Nat} {es : LEs} {x y z : Str} {a b c : Expr} {px py pz pt p2 p : Pos} {n m : Nat} (hx : k.ns[i]? = some x) (hy : k.ns[j]? = some y) (hz : k.ns[l]? = some z) (hij : i ≠ j) (hil : i ≠ l) (hjl : j ≠ l)
    (lx : k.sc.names.lookup x = some .local) (ly : k.sc.names.lookup y = some .local) (lz : k.sc.names.lookup z = some .local)
    (hw : swapV k.sc [.Name x px, .Name y py, .Name z pz] [a, b, c] = some (some [x, y, z])) (h : PA X [a, b, c] (rdEs N cf X.K X.w X.mg W es)) :
    PS X (.Assign [.Tuple [.Name x px, .Name y py, .Name z pz] n pt] (.Tuple [a, b, c] m p2) p) (rdS N cf X.K X.w X.mg F0 H0 rho0 W (.par [i, j, l] es)) := by
  rw [← ok.ns] at hx hy hz
  rw [← ok.sc] at lx ly lz
  refine PS.imp (ps_par3 ok.calm ok.nd hx hy hz hij hil hjl lx ly lz h (swapV_ok ok.sc hw) rfl) fun D sv H q => ?_
  obtain ⟨F, rho, σ, S, fs, q⟩ := q
  simp only [evS] at q
  refine ⟨F, rho, σ, S, fs.st, fs.sl, (q.expr fs).imp fun vs H1 ⟨us, S1, F1, rho1, fs1, c1, q1, _⟩ => ?_⟩
  cases es' : setVals [i, j, l] us σ with
  | none => rw [es'] at q1; exact q1.elim
  | some σ' =>
    rw [es'] at q1
    obtain ⟨fs2, hl⟩ := setVals_ok fs1 c1 es'
    match vs, hl with
    | [v, w', v3], _ => exact ⟨v, w', v3, rfl, q1 F1 H1 rho1 _ fs2 (Same.refl _) (Pre.refl _)⟩
end
end Far

set_option Elab.async false
set_option linter.all false
set_option maxRecDepth 100000
set_option maxHeartbeats 4000000
/-! Own errors: what their __init__ leaves; raise. -/
namespace Far
open PySem PySem.Spec PyProof.Rows L2

/-- what an __init__ of an error leaves: its fields by g -/
def spInit (K : PySem.W.Frag) (n : Nat) (fns : List Str) (g : List V → List (Str × V)) : Sp := fun vs H Q _ => ∃ (a C : Addr) (ws : List V), vs = .ref a :: ws ∧ ws.length = n ∧ OexC K C ∧ (∀ f ∈ fns, PySem.W.findIn K (.ref C) f = some none) ∧ H a = some (exo a C none) ∧
  ∀ (dx : Addr) (H' : Hp), H dx = none → dx ≠ a → H' a = some (exo a C (some dx)) → H' dx = some (exd dx (g ws)) → (∀ b, b ≠ a → b ≠ dx → H' b = H b) → Q .non H'

/-- x.m(a, b) on one line -/
theorem mcall_eq {x m : Str} {a b : Expr} {p1 p2 pos : Pos} (env : Env) (ha : starred a = false) (hb : starred b = false) (h : (p2.endLine == pos.line) = true) : eval (.Call (.Attribute (.Name x p1) m p2) [a, b] [] pos) env = (do
      let ov ← eval (.Name x p1) env
      standAt p2.atName
      let (f, first) ← holding [ov] (getMethod ov m (do return (← importBound (.Name x p1) env).getD true))
      callWith pos f first (backTo pos (starEach [a, b] env)) (backToKw pos (keywordEach [] env))) := by
  have hf : methodCallForm 2 (backTo pos (starEach [a, b] env)) (backToKw pos (keywordEach [] env)) = true := by
    rw [star_cons ha, star_cons hb]
    rfl
  show (do
    let ov ← attributeBase (.Name x p1) m env (eval (.Name x p1) env)
    standAt p2.atName
    methodCall (.Name x p1) m p2 pos env ov 2 (backTo pos (starEach [a, b] env)) (backToKw pos (keywordEach [] env))) = _
  unfold methodCall methodCallPos calleeOf
  simp only [hf, h]
  rfl
section
variable {X : Cx} {e : Expr} {es : List Expr} {x : Str} {p1 p2 pos : Pos} {ta : TA}
/-- B.__init__(..), B an own class, its __init__ a def -/
theorem pe_binit {pl : Sem Bool} {B fI : Addr} {mc : Value} {k : Nat} {fd : FuncData} {ps : List Str} {sp : Sp} {E : XK} (hg : Gl X x) (hm : X.mg x = some (.ref B)) (r : ClX.CRead X.K B mc) (hv : PySem.W.findCls X.K (.ref B) mc "__init__" = some (.val (.ref fI))) (hk : PySem.W.keepIn X.K (.ref fI) = true)
    (F : FnOk X.prog X.w X.K X.mg X.base (L2.CX X.prog X.w) k fI fd ps sp) (hr : Room k X.A) (hb : Binds X.K fd ps []) (hx : Passes (L2.CX X.prog X.w) X E) (ha : PA X (e :: es) ta) (hdb : (x == ("__debug__" : Str)) = false)
    (hc : eval (.Call (.Attribute (.Name x p1) "__init__" p2) (e :: es) [] pos) X.env = (do
      let ov ← eval (.Name x p1) X.env
      standAt p2.atName
      let (f, first) ← holding [ov] (getMethod ov "__init__" pl)
      callWith pos f first (backTo pos (starEach (e :: es) X.env)) (backToKw pos (keywordEach [] X.env))) := by rfl)
    (he : starEach (e :: es) X.env = (false, eval e X.env) :: starEach es X.env := by rfl) (hpl : (backTo pos (starEach es X.env)).any (·.1) = false := by rfl) :
    PE X (.Call (.Attribute (.Name x p1) "__init__" p2) (e :: es) [] pos) (tCall sp [] E ta) := by
  refine ⟨fun pins s σ H Q I h => ?_⟩
  refine PySem.W.methodCall_KW (ld_glob I hg hm ?_ hdb) hc
  refine PySem.W.method_cls I.kIn r.ga (ClX.getcval_ok I r (v := V.ref fI) ⟨hv, rfl⟩ fun s1 I1 => ?_)
  show wpAny _ _ (callWith pos (Value.ref fI) [] (backTo pos (starEach (e :: es) X.env)) []) _ _ _
  refine PySem.W.callWith_K (h₀ := X.base) I.ok.mod.kin hk (thn (ha.run pos pins _ σ H _ I1 h) fun us s2 ⟨vs, H1, I2, r2, q⟩ => ⟨I2.kIn, ?_⟩) he hpl
  exact run_fn F hr hb .nil hx I2 r2 q
/-- C(), C's own __init__ keeping sp -/
theorem pmk_oex0 {C fI : Addr} {k : Nat} {fd : FuncData} {ps : List Str} {sp : Sp} {ds : List Value} {dvs : List V} {p : Pos} (T : OexC X.K C) (iC : PySem.W.findIn X.K (.ref C) "__init__" = some (some (.ref fI))) (tI : PySem.W.typeIn X.K (.ref fI) = some (.type "function"))
    (F1 : FnOk X.prog X.w X.K X.mg X.base (L2.CX X.prog X.w) k fI fd ps sp) (hr : Room (k + 1) X.A) (hb : Binds X.K fd ps ds) (hd : Vals dvs ds) (hx : Passes (L2.CX X.prog X.w) X (fun _ _ _ => False)) (hg : Gl X x) (hm : X.mg x = some (.ref C))
    (hdb : (x == ("__debug__" : Str)) = false) :
    PMk X (.Call (.Name x p) [] [] pos) (tMkO C sp dvs tNil) := by
  intro pins s σ H Q I h
  obtain ⟨nm, q, N, bs, bm, sn, sub, ab, col, dd, k0, k1, k2, k3, k5, hC, hbm⟩ := T.cls
  refine wpAny_Call_Name_kw (ld_glob I hg hm ?_ hdb)
  refine PySem.W.callWith_K0 I.kIn T.kC ?_
  show wpAny _ _ (call (.ref C) []) _ _ _
  obtain ⟨hz, q1⟩ := h
  obtain ⟨hp, g, dr, tk, os⟩ := s
  have hsz : hp.objs.size ≤ hp.objs.size + 1 := Nat.le_succ _
  have hn : H (hp.objs.size + 1) = none := I.hok.fresh hsz
  have hq := q1 (hp.objs.size + 1) hn
  have kk : ∀ b o, hp.get? b = some o → ((hp.push (PySem.W.kdv_tup [])).push (PySem.HandSPX.excO C hp.objs.size)).get? b = some o := fun b o e => Heap.get?_push_of_some _ (Heap.get?_push_of_some _ e)
  have hget : ((hp.push (PySem.W.kdv_tup [])).push (PySem.HandSPX.excO C hp.objs.size)).get? (hp.objs.size + 1) = some (PySem.HandSPX.excO C hp.objs.size) := by heap_get
  have I2 : Inv X pins σ (upd H (hp.objs.size + 1) (exo (hp.objs.size + 1) C none)) ⟨(hp.push (PySem.W.kdv_tup [])).push (PySem.HandSPX.excO C hp.objs.size), g, dr, tk, os⟩ :=
    I.laid (t' := tk) (a := hp.objs.size + 1) (o := exo (hp.objs.size + 1) C none) (h' := (hp.push (PySem.W.kdv_tup [])).push (PySem.HandSPX.excO C hp.objs.size)) kk hsz (exo_ok hget)
  have r2 : Vals (V.ref (hp.objs.size + 1) :: ([] ++ dvs)) (Value.ref (hp.objs.size + 1) :: ds) := .cons rfl hd
  have hl : (Value.ref (hp.objs.size + 1) :: [] ++ ds).length = ps.length := by
    have e := r2.length
    rw [F1.len _ _ _ _ hq] at e
    exact e.symm
  have hb2 := hb _ (Value.ref (hp.objs.size + 1) :: []) I2.kIn hl
  simp only [List.cons_append, List.nil_append] at hb2
  have hus : ([] : List Value).length ≤ sizeLine := Nat.zero_le _
  refine wpAny_call (PySem.HandSPX.call_own F.excBase_ValueError (fun Y => PySem.HandSPX.refsVE_contains Y bm hbm) (I.kIn _ _ hC) (PySem.W.looks_findIn I.kIn iC) (fun self => PySem.W.bind_fn I.kIn self tI) hus
    (codeAny_mono (F1.run _ X.stack _ _ ⟨Value.ref (hp.objs.size + 1) :: [], []⟩ (Value.ref (hp.objs.size + 1) :: ds) _ _ (fun _ _ _ => False) (hr.make C [] []) (I2.env0.make C [] []) hb2 r2 hq) fun r s' hq' => ?_))
  cases r with
  | error er => exact hx pins σ _ _ er s' I2 hq'
  | ok fl =>
    cases fl with
    | ret u =>
      obtain ⟨v, H2, os2, bare2, un2, hok2, rv, ev, d, fs, ea, ed, hd1, q2⟩ := hq'
      subst ev
      obtain ⟨h2, g2, d2, t2, os'⟩ := s'
      exact ⟨rv, mk_end (raises_own T.exC T.tyC) I hsz kk un2 hok2 os2 bare2 ea ed hd1 q2⟩
    | next => exact False.elim hq'
    | brk => exact False.elim hq'
    | cont => exact False.elim hq'
end

/-! ### the __init__s -/
def lenInit {K : PySem.W.Frag} {n : Nat} {fns : List Str} {g : List V → List (Str × V)} {ps : List Str} (hp : ps.length = n + 1) : ∀ vs H Q E, spInit K n fns g vs H Q E → vs.length = ps.length := fun vs H Q E h => by
  obtain ⟨a, C, ws, rfl, hl, _⟩ := h
  rw [List.length_cons, hl, hp]
section
variable {P : Program} {w : World} {K : PySem.W.Frag} {mg : Str → Option Value} {base : Heap} {x qual : Str} {params : Arguments} {scope : Scope} {dvs : List V} {kws : List (Str × V)} {f : Addr} {fd : FuncData}
theorem star2 {a b : Expr} (env : Env) (h : starred a = false) : starEach (a :: [b]) env = (false, eval a env) :: starEach [b] env := star_cons h _ _
/-- def __init__(self, word): ValueError.__init__(self, word); self.word = word -/
theorem init_word {p1 p2 p3 p4 p5 p6 p7 p8 p9 p10 : Pos} (F : FunD K x qual params [.Expr (.Call (.Attribute (.Name "ValueError" p1) "__init__" p2) [.Name "self" p3, .Name "word" p4] [] p5) p6, .Assign [.Attribute (.Name "self" p7) "word" p8] (.Name "word" p9) p10] scope dvs kws f fd)
    (S : FnScope ["self", "word"] ["self", "word"] scope) (hs : scope.names.lookup ("self" : Str) = some .local) (hw : scope.names.lookup ("word" : Str) = some .local) (hpp : (p2.endLine == p5.line) = true) (hv : scope.names.lookup ("ValueError" : Str) = some .globalImplicit) (hm : mg "ValueError" = none)
    (vV : PySem.W.findCls K (.type "ValueError") (.type "type") "__init__" = some (.val (.builtin "ValueError.__init__"))) :
    FnOk P w K mg base (L2.CX P w) 1 f fd ["self", "word"] (spInit K 1 ["word"] fun ws => ws.map fun y => ("word", y)) := by
  refine F.ok S (lenInit rfl) fun cdv A outer s H vs Q E hr hsp => ?_
  have v0 : ∀ {p : Pos}, PE (cxOf (L2.CX P w) P w K mg base ["self", "word"] qual scope f cdv A outer s H E) (.Name "self" p) (tVar 0) := fun {p} => pe_var rfl (.inl hs)
  have v1 : ∀ {p : Pos}, PE (cxOf (L2.CX P w) P w K mg base ["self", "word"] qual scope f cdv A outer s H E) (.Name "word" p) (tVar 1) := fun {p} => pe_var rfl (.inl hw)
  refine ⟨_, pss_cons (ps_expr (pe_veinit hv hm vV (pa_cons v0 (pa_cons v1 pa_nil)) (hc := mcall_eq _ rfl rfl hpp))) (pss_cons (ps_ost v0 v1) pss_nil), ?_⟩
  obtain ⟨a, C, ws, rfl, hl, T, hf, ha, q⟩ := hsp
  match ws, hl with
  | [y], _ =>
    refine ⟨.ref a, rfl, y, rfl, a, C, [y], rfl, by simp, T, ha, ?_⟩
    refine ⟨y, rfl, .ref a, rfl, a, C, rfl, T, hf _ (by simp), .inl ⟨ha, fun dx hd hda => ?_⟩⟩
    refine q dx _ hd hda upd_same ?_ fun b h1 h2 => ?_
    · rw [upd_ne hda, upd_same]; rfl
    · rw [upd_ne h1, upd_ne h2]
/-- def __init__(self): B.__init__(self, "..") -/
theorem init_none {p1 p2 p3 p4 p5 p6 : Pos} {kd : Nat} {b wd : Str} {B fB : Addr} {mc : Value} {fdB : FuncData} (F : FunD K x qual params [.Expr (.Call (.Attribute (.Name b p1) "__init__" p2) [.Name "self" p3, .Constant (.str wd) kd p4] [] p5) p6] scope dvs kws f fd)
    (S : FnScope ["self"] ["self"] scope) (hs : scope.names.lookup ("self" : Str) = some .local) (hpp : (p2.endLine == p5.line) = true) (hv : scope.names.lookup b = some .globalImplicit) (hdb : (b == ("__debug__" : Str)) = false) (hm : mg b = some (.ref B)) (r : ClX.CRead K B mc) (fc : PySem.W.findCls K (.ref B) mc "__init__" = some (.val (.ref fB)))
    (hk : PySem.W.keepIn K (.ref fB) = true) (FB : FnOk P w K mg base (L2.CX P w) 1 fB fdB ["self", "word"] (spInit K 1 ["word"] fun ws => ws.map fun y => ("word", y))) (hb : Binds K fdB ["self", "word"] []) :
    FnOk P w K mg base (L2.CX P w) 2 f fd ["self"] (spInit K 0 ["word"] fun _ => [("word", .str wd)]) := by
  refine F.ok S (lenInit rfl) fun cdv A outer s H vs Q E hr hsp => ?_
  have v0 : ∀ {p : Pos}, PE (cxOf (L2.CX P w) P w K mg base ["self"] qual scope f cdv A outer s H E) (.Name "self" p) (tVar 0) := fun {p} => pe_var rfl (.inl hs)
  have tk : Takes (cxOf (L2.CX P w) P w K mg base ["self"] qual scope f cdv A outer s H E) (fun c d _ H => E c d H) := takes_of rfl rfl rfl rfl
  refine ⟨_, pss_cons (ps_expr (pe_binit (E := fun _ _ _ => False) hv hm r fc hk FB hr hb (passes_call tk fun _ _ _ _ z => z.elim) (pa_cons v0 (pa_cons pe_str pa_nil)) hdb (hc := mcall_eq _ rfl rfl hpp))) pss_nil, ?_⟩
  obtain ⟨a, C, ws, rfl, hl, T, hf, ha, q⟩ := hsp
  match ws, hl with
  | [], _ =>
    refine ⟨.ref a, rfl, a, C, [.str wd], rfl, rfl, T, hf, ha, fun dx H' h1 h2 h3 h4 h5 => ?_⟩
    exact q dx H' h1 h2 h3 h4 h5
/-- def __init__(self, y): B.__init__(self, ".."); self.y = y -/
theorem init_one {p1 p2 p3 p4 p5 p6 p7 p8 p9 p10 : Pos} {kd : Nat} {b wd y : Str} {B fB : Addr} {mc : Value} {fdB : FuncData} (F : FunD K x qual params [.Expr (.Call (.Attribute (.Name b p1) "__init__" p2) [.Name "self" p3, .Constant (.str wd) kd p4] [] p5) p6, .Assign [.Attribute (.Name "self" p7) y p8] (.Name y p9) p10] scope dvs kws f fd)
    (S : FnScope ["self", y] ["self", y] scope) (hs : scope.names.lookup ("self" : Str) = some .local) (hy : scope.names.lookup y = some .local) (hdy : (y == ("__debug__" : Str)) = false) (hcy : (y == ("__classdict__" : Str)) = false) (hpp : (p2.endLine == p5.line) = true) (hv : scope.names.lookup b = some .globalImplicit) (hdb : (b == ("__debug__" : Str)) = false) (hm : mg b = some (.ref B)) (r : ClX.CRead K B mc) (fc : PySem.W.findCls K (.ref B) mc "__init__" = some (.val (.ref fB)))
    (hk : PySem.W.keepIn K (.ref fB) = true) (FB : FnOk P w K mg base (L2.CX P w) 1 fB fdB ["self", "word"] (spInit K 1 ["word"] fun ws => ws.map fun y => ("word", y))) (hb : Binds K fdB ["self", "word"] []) :
    FnOk P w K mg base (L2.CX P w) 2 f fd ["self", y] (spInit K 1 ["word", y] fun ws => ws.map (fun v => (y, v)) ++ [(("word" : Str), V.str wd)]) := by
  refine F.ok S (lenInit rfl) fun cdv A outer s H vs Q E hr hsp => ?_
  have v0 : ∀ {p : Pos}, PE (cxOf (L2.CX P w) P w K mg base ["self", y] qual scope f cdv A outer s H E) (.Name "self" p) (tVar 0) := fun {p} => pe_var rfl (.inl hs)
  have v1 : ∀ {p : Pos}, PE (cxOf (L2.CX P w) P w K mg base ["self", y] qual scope f cdv A outer s H E) (.Name y p) (tVar 1) := fun {p} => pe_var rfl (.inl hy) hdy hcy
  have tk : Takes (cxOf (L2.CX P w) P w K mg base ["self", y] qual scope f cdv A outer s H E) (fun c d _ H => E c d H) := takes_of rfl rfl rfl rfl
  refine ⟨_, pss_cons (ps_expr (pe_binit (E := fun _ _ _ => False) hv hm r fc hk FB hr hb (passes_call tk fun _ _ _ _ z => z.elim) (pa_cons v0 (pa_cons pe_str pa_nil)) hdb (hc := mcall_eq _ rfl rfl hpp))) (pss_cons (ps_ost v0 v1) pss_nil), ?_⟩
  obtain ⟨a, C, ws, rfl, hl, T, hf, ha, q⟩ := hsp
  match ws, hl with
  | [v], _ =>
    refine ⟨.ref a, rfl, a, C, [.str wd], rfl, rfl, T, fun f hm => hf f (by simp at hm; simp [hm]), ha, fun dx H' h1 h2 h3 h4 h5 => ?_⟩
    refine ⟨v, rfl, .ref a, rfl, a, C, rfl, T, hf _ (by simp), .inr ⟨dx, _, h3, h4, by simp, ?_⟩⟩
    refine q dx _ h1 h2 ?_ ?_ fun b h6 h7 => ?_
    · rw [upd_ne (Ne.symm h2)]; exact h3
    · rw [upd_same]; rfl
    · rw [upd_ne h7]; exact h5 b h6 h7
end
end Far

set_option Elab.async false
set_option linter.all false
set_option maxRecDepth 100000
set_option maxHeartbeats 4000000
/-! raise, try; the checker of statements; all statements. -/
namespace Far
open PySem PySem.Spec PyProof.Rows L2

/-- the error class c may be raised -/
def RsC0 (N : Cn) (P : Program) (w : World) (K : PySem.W.Frag) (mg : Str → Option Value) (base : Heap) (c : Str) : Prop := ∃ (C fI : Addr) (fd : FuncData) (ps : List Str) (n : Nat) (fns : List Str) (g : List V → List (Str × V)), mg c = some (.ref C) ∧ OexC K C ∧ (∀ f ∈ fns, PySem.W.findIn K (.ref C) f = some none) ∧
  PySem.W.findIn K (.ref C) "__init__" = some (some (.ref fI)) ∧ PySem.W.typeIn K (.ref fI) = some (.type "function") ∧ FnOk P w K mg base (L2.CX P w) 2 fI fd ps (spInit K n fns g) ∧ Binds K fd ps [] ∧
  ∀ us fs, N.xm c us = some fs → us.length = n ∧ n ≤ 1000 ∧ ∀ F rho vs, CVs K w F rho us vs → ∀ f u, fs.lookup f = some u → ∃ v, (g vs).lookup f = some v ∧ CV K w F rho u v
def RsC (N : Cn) (X : Cx) (c : Str) : Prop := RsC0 N X.prog X.w X.K X.mg X.base c
structure SXk (xs hs : List Str) (N : Cn) (cf : CF) (k : Ck) (X : Cx) (W : WX) : Prop where
  ok : XOk N cf k X W
  hp : PassesOwn (model X.prog X.w) X.A X.env X.xe
  stk : X.stack = X.env :: X.outer
  frm : X.env.frame = some X.env.locals
  rse : ∀ c ∈ xs, RsC N X c
  han : ∀ c ∈ hs, ∃ v, X.mg c = some v
  room3 : Room 3 X.A
  sub : ∀ e c b, N.sub e c = some b → ∃ ve vc, X.mg e = some ve ∧ X.mg c = some vc ∧ PySem.W.exmOne X.K ve vc = some b
section
variable {xs hs : List Str} {N : Cn} {cf : CF} {k : Ck} {X : Cx} {W : WX} {F0 H0 : Hp} {rho0 : List Addr}
theorem SXk.tr (o : SXk xs hs N cf k X W) {W' : WX} {pn : List (Addr × Obj)} {xe : Value → Shared → Prop} (tk : Takes (X.tr pn xe) W') (hp : PassesOwn (model X.prog X.w) X.A X.env xe) : SXk xs hs N cf k (X.tr pn xe) W' where
  ok := ⟨o.ok.ns, o.ok.sc, o.ok.fn, o.ok.nd, o.ok.calm, o.ok.room, o.ok.con, o.ok.free, tk, o.ok.calls⟩
  hp := hp
  stk := o.stk
  frm := o.frm
  rse := o.rse
  han := o.han
  room3 := o.room3
  sub := o.sub

/-! ### raise -/
theorem rse_end {K : PySem.W.Frag} {w : World} {mg : Str → Option Value} {F H1 H2 : Hp} {rho : List Addr} {S : Sto} {σ : Slots} {sv : L2.St} {c : Str} {us : List U} {vs : List V} {fs : List (Str × U)} {gs : List (Str × V)} {C a d : Addr} {D : Ends} {W : WX}
    (fsx : FS K w F0 H0 rho0 F H1 rho S σ sv) (cs : CVs K w F rho us vs) (hm : mg c = some (.ref C)) (rel : ∀ f u, fs.lookup f = some u → ∃ v, gs.lookup f = some v ∧ CV K w F rho u v)
    (q : PostS K w mg F0 H0 rho0 F rho (.exc ⟨c, fs⟩ σ S) D W) (ha : H1 a = none) (hd : H1 d = none) (hda : d ≠ a) (h2 : ∀ b, b ≠ a → b ≠ d → H2 b = upd H1 a (exo a C none) b) : W (.ref C) (some d) sv (upd (del H2 a) d (.xd gs)) := by
  have eH : upd (del H2 a) d (.xd gs) = upd H1 d (.xd gs) := by
    funext b
    by_cases z : b = d
    · subst z; rw [upd_same, upd_same]
    · rw [upd_ne z, upd_ne z]
      by_cases y : b = a
      · subst y; rw [del_same]; exact ha.symm
      · rw [del_ne y, h2 b y z, upd_ne y]
  rw [eH]
  have fd : F d = none := fsx.st.sub.free hd
  have g : Grow F H1 rho (upd F d (.xd gs)) (upd H1 d (.xd gs)) rho := Grow.new fsx.st.sub hd
  have st : St K w (upd F d (.xd gs)) (upd H1 d (.xd gs)) rho S := fsx.st.froze fd (fsx.st.new hd)
  refine q _ _ _ _ _ sv (fsx.grow g st) g.fex g.rex ⟨hm, d, gs, rfl, upd_same, fun f u e => ?_⟩
  obtain ⟨v, e1, e2⟩ := rel f u e
  exact ⟨v, e1, e2.mono g.fex g.rex⟩
theorem s_rse (o : SXk xs hs N cf k X W) {c : Str} {es : LEs} {ys : List Expr} {p p2 p3 : Pos} (hc : c ∈ xs) (hg : glB k.sc c = true) (hes : chkEs k es ys = true) :
    PS X (.Raise (some (.Call (.Name c p) ys [] p2)) none p3) (rdS N cf X.K X.w X.mg F0 H0 rho0 W (.rse c es)) := by
  obtain ⟨C, fI, fd, ps, n, fns, g, hm, T, hf, iC, tI, FI, hb, rel⟩ := o.rse c hc
  obtain ⟨g1, g2, g3⟩ := o.ok.gl hg
  have hpas : Passes (L2.CX X.prog X.w) X (fun _ _ _ => False) := passes_call o.ok.takes fun _ _ _ _ z => z.elim
  cases ys with
  | nil =>
    cases es with
    | cons e es => cases hes
    | nil =>
      refine PS.imp (ps_raise o.ok.calm o.ok.takes (pmk_oex0 T iC tI FI o.room3 hb .nil hpas g1 hm g2)) fun D sv H q => ?_
      obtain ⟨F, rho, σ, S, fs, q⟩ := q
      simp only [evS, evEs, R.then_ok] at q
      cases ex : N.xm c [] with
      | none => rw [ex] at q; exact q.elim
      | some xf =>
        rw [ex] at q
        obtain ⟨hl, _, rl⟩ := rel _ _ ex
        refine ⟨by simp, fun a ha => ⟨a, C, [], rfl, hl, T, hf, upd_same, fun dx H' h1 h2 h3 h4 h5 => ⟨rfl, dx, g [], h3, h4, ?_, ?_⟩⟩⟩
        · rw [upd_ne h2] at h1; exact h1
        · rw [upd_ne h2] at h1
          exact rse_end fs .nil hm (rl _ _ _ .nil) q ha h1 h2 h5
  | cons y ys =>
    have hst : starred y = false := by
      cases es with
      | nil => cases hes
      | cons e es =>
        unfold chkEs at hes
        simpa using (ba hes).1
    have hpl : (backTo p2 (starEach ys X.env)).any (·.1) = false := by
      cases es with
      | nil => cases hes
      | cons e es =>
        unfold chkEs at hes
        exact any_star (ba (ba hes).2).2 _ _
    refine PS.imp (ps_raise o.ok.calm o.ok.takes (pmk_oex T iC tI FI o.room3 hb .nil hpas g1 hm (sndEs es _ o.ok hes) g2 (star_cons hst _ _) hpl)) fun D sv H q => ?_
    obtain ⟨F, rho, σ, S, fs, q⟩ := q
    simp only [evS] at q
    refine ⟨F, rho, σ, S, fs.st, fs.sl, (q.expr fs).imp fun vs H1 ⟨us, S1, F1, rho1, fs1, c1, q1, _⟩ => ?_⟩
    cases ex : N.xm c us with
    | none => rw [ex] at q1; exact q1.elim
    | some xf =>
      rw [ex] at q1
      obtain ⟨hl, hn, rl⟩ := rel _ _ ex
      have c1' : CVs X.K X.w F1 rho1 us vs := c1
      refine ⟨by rw [← c1'.length, hl]; exact hn, fun a ha => ⟨a, C, vs, by simp, by rw [← c1'.length]; exact hl, T, hf, upd_same, fun dx H' h1 h2 h3 h4 h5 => ⟨rfl, dx, g vs, h3, h4, ?_, ?_⟩⟩⟩
      · rw [upd_ne h2] at h1; exact h1
      · rw [upd_ne h2] at h1
        exact rse_end fs1 c1' hm (rl _ _ _ c1') q1 ha h1 h2 h5

/-! ### suites of handlers -/
def constOk : U → Expr → Bool
  | .int i, .Constant (.int j) _ _ => i == j
  | .bl b, .Constant (.bool d) _ _ => b == d
  | .str x, .Constant (.str y) _ _ => x == y
  | .non, .Constant .none _ _ => true
  | _, _ => false
theorem const_ok {u : U} {e : Expr} (h : constOk u e = true) {Y : Cx} {F : Hp} {rho : List Addr} : ∃ v, PE Y e (tC v) ∧ ∀ F rho, CV Y.K Y.w F rho u v := by
  unfold constOk at h
  split at h
  · exact ⟨_, by rw [eq_of_beq h]; exact pe_int, fun _ _ => .int _⟩
  · exact ⟨_, by rw [eq_of_beq h]; exact pe_bl, fun _ _ => .bl _⟩
  · exact ⟨_, by rw [eq_of_beq h]; exact pe_str, fun _ _ => .str _⟩
  · exact ⟨_, pe_non, fun _ _ => .non⟩
  · cases h
theorem const_comp {u : U} {e : Expr} (h : constOk u e = true) : comp e = false := by
  unfold constOk at h
  split at h <;> first | rfl | cases h
theorem const_swap {u : U} {e : Expr} (h : constOk u e = true) {x : Str} {p : Pos} (env : Env) : swappedStores [.Name x p] e env = pure none := by
  unfold constOk at h
  split at h <;> first | rfl | cases h
/-- x = a constant -/
def chkU1 (k : Ck) : LS → Stmt → Bool
  | .asg (.nm i) (.c u), .Assign [.Name x _] v _ => constOk u v && k.sto i x
  | _, _ => false
def chkU (k : Ck) : LSs → List Stmt → Bool
  | .nil, [] => true
  | .cons s ss, x :: xs => chkU1 k s x && chkU k ss xs
  | _, _ => false
theorem XOk.stoOk (o : XOk N cf k X W) {i : Nat} {x : Str} (h : k.sto i x = true) : X.N[i]? = some x ∧ Loc X.env.scope x ∧ (X.fn x = true ∨ X.env.scope.names.lookup x = some .local) := by
  unfold Ck.sto at h
  obtain ⟨h1, h2⟩ := ba h
  rw [o.ns, o.sc]
  refine ⟨by simpa using h1, ?_⟩
  rcases Bool.or_eq_true_iff.mp h2 with h3 | h3
  · have h3' : k.sc.names.lookup x = some .local := by simpa using h3
    exact ⟨.inl h3', .inr h3'⟩
  · obtain ⟨h4, h5⟩ := ba h3
    exact ⟨.inr (by simpa using h4), .inl (o.fn x h5)⟩
theorem u_one (o : XOk N cf k X W) {a : Addr} {pn : List (Addr × Obj)} {W' : WX} : ∀ {s : LS} {x : Stmt}, chkU1 k s x = true → PS (X.suite a pn) x (rdS N cf X.K X.w X.mg F0 H0 rho0 W' s) := fun {s x} h => by
  unfold chkU1 at h
  split at h
  · rename_i i u y py v p
    obtain ⟨h1, h2⟩ := ba h
    obtain ⟨v, hv, cv⟩ := const_ok (F := F0) (rho := rho0) h1 (Y := X.suite a pn)
    obtain ⟨n1, n2, n3⟩ := o.stoOk h2
    refine PS.imp (ps_asg hv (pg_name (X := X.suite a pn) o.nd n1 n2 n3) (sws_plain (const_comp h1) _ _ _) (const_swap h1 _) rfl) fun D sv H q => ?_
    obtain ⟨F, rho, σ, S, fs, q⟩ := q
    simp only [evS, evE, R.then_ok] at q
    have ea : Far.assign (.nm i) u σ = some (σ.set i (.val u)) := by unfold Far.assign; rfl
    rw [ea] at q
    exact q F H rho _ (fs.assign ea (Grow.refl _ _ _) fs.st (set_slots fs.sl (cv F rho)) (But.set _ _ _)) (Same.refl _) (Pre.refl _)
  · cases h
theorem u_all (o : XOk N cf k X W) {a : Addr} {pn : List (Addr × Obj)} {W' : WX} : ∀ {s : LSs} {x : List Stmt}, chkU k s x = true → PSs (X.suite a pn) x (rdSs N cf X.K X.w X.mg F0 H0 rho0 W' s)
  | .nil, [], h => ss_nil (X := X.suite a pn)
  | .nil, _ :: _, h => by cases h
  | .cons _ _, [], h => by cases h
  | .cons s ss, x :: xs, h => by
    unfold chkU at h
    obtain ⟨h1, h2⟩ := ba h
    exact ss_cons (X := X.suite a pn) (u_one o h1) (u_all o h2)

/-! ### try -/
theorem s_try (o : SXk xs hs N cf k X W) {body suite : LSs} {x : Str} {ss : List Stmt} {b0 : Stmt} {us : List Stmt} {np p p2 : Pos} (hx : x ∈ hs) (hg : glB k.sc x = true)
    (hb : ∀ (W' : WX) (pn : List (Addr × Obj)) (xe : Value → Shared → Prop), Takes (X.tr pn xe) W' → PassesOwn (model X.prog X.w) X.A X.env xe → PSs (X.tr pn xe) ss (rdSs N cf X.K X.w X.mg F0 H0 rho0 W' body)) (hu : chkU k suite (b0 :: us) = true) :
    PS X (.Try ss [.ExceptHandler (some (.Name x np)) none (b0 :: us) p2] [] [] p) (rdS N cf X.K X.w X.mg F0 H0 rho0 W (.tri body [x] none suite)) := by
  obtain ⟨c, hm⟩ := o.han x hx
  obtain ⟨g1, g2, g3⟩ := o.ok.gl hg
  refine PS.imp (ps_try_only (c := c) (tb := fun W' => rdSs N cf X.K X.w X.mg F0 H0 rho0 W' body) (ts := fun _ _ _ => rdSs N cf X.K X.w X.mg F0 H0 rho0 W suite) o.stk o.frm ⟨g1, g2, .inl hm⟩ o.ok.takes hb (fun a oe cls d pn _ _ => u_all o.ok hu)) fun D sv H q => ?_
  obtain ⟨F, rho, σ, S, fs, q⟩ := q
  refine ⟨F, rho, σ, S, fs, ?_⟩
  unfold evS at q
  cases e : evSs N cf body σ S with
  | nx σ1 S1 => rw [e] at q; exact q
  | rt u S1 => rw [e] at q; exact q
  | bk σ1 S1 => rw [e] at q; exact q
  | ct σ1 S1 => rw [e] at q; exact q
  | bad => rw [e] at q; exact q
  | exc x1 σ1 S1 =>
    rw [e] at q
    simp only [subAny] at q
    intro c1 d1 F1 H1 rho1 sv1 fs1 e1 p1 xr
    cases hsub : N.sub x1.cls x with
    | none => rw [hsub] at q; exact q.elim
    | some b =>
      rw [hsub] at q
      obtain ⟨ve, vc, m1, m2, em⟩ := o.sub _ _ _ hsub
      rw [hm] at m2
      cases m2
      have m3 := xr.1
      rw [m1] at m3
      cases m3
      refine ⟨b, em, fun hb a na => ?_, fun hb => ?_⟩
      · subst hb
        exact ⟨F1, rho1, σ1, S1, fs1, PostS.mono q e1 p1⟩
      · subst hb
        exact q _ _ F1 H1 rho1 sv1 fs1 e1 p1 xr
end

/-! ### the checker -/
/-- x = [.. for ..] -/
def chkLc (k : Ck) : LT → LE → Expr → Expr → Bool
  | .nm i, .lc own tg it cs a, .Name x p2, .ListComp elt gens scope p => k.ns[i]? == some x && (k.sc.names.lookup x == some .local && (k.sc.kind == .function && ((p2.line == p.line) && (!(scope.names.any fun (n, kk) => n == x && (kk == .local || kk == .cell)) && chkE k (.lc own tg it cs a) (.ListComp elt gens scope p)))))
  | _, _, _, _ => false
mutual
def chkS (xs hs : List Str) (k : Ck) : LS → Stmt → Bool
  | .asg t e, s => (match s with
    | .Assign [tg] v _ => (!starred tg && (!comp v && (noSwap k.sc tg v && (chkT k t tg && chkE k e v)))) || chkLc k t e tg v
    | _ => false)
  | .par is es, s => (match is, s with
    | [i, j], .Assign [.Tuple [.Name x px, .Name y py] _ _] (.Tuple [a, b] _ _) _ => k.ns[i]? == some x && (k.ns[j]? == some y && (i != j && (k.sc.names.lookup x == some .local && (k.sc.names.lookup y == some .local && (swapV k.sc [.Name x px, .Name y py] [a, b] == some (some [x, y]) && chkEs k es [a, b])))))
    | [i, j, l], .Assign [.Tuple [.Name x px, .Name y py, .Name z pz] _ _] (.Tuple [a, b, c] _ _) _ => k.ns[i]? == some x && (k.ns[j]? == some y && (k.ns[l]? == some z && (i != j && (i != l && (j != l && (k.sc.names.lookup x == some .local && (k.sc.names.lookup y == some .local && (k.sc.names.lookup z == some .local && (swapV k.sc [.Name x px, .Name y py, .Name z pz] [a, b, c] == some (some [x, y, z]) && chkEs k es [a, b, c])))))))))
    | _, _ => false)
  | .setI o i e, s => (match s with
    | .Assign [.Subscript x y _] v _ => !comp v && (!sliced y && (chkE k o x && (chkE k i y && chkE k e v)))
    | _ => false)
  | .ex e, s => (match s with
    | .Expr v _ => !comp v && chkE k e v
    | _ => false)
  | .ret e, s => (match s with
    | .Return (some v) _ => chkE k e v
    | _ => false)
  | .ite t a b, s => (match s with
    | .If c x y _ => chkC k t c && (chkSs xs hs k a x && chkSs xs hs k b y)
    | _ => false)
  | .loop t it body, s => (match s with
    | .For tg iter ys [] _ => !setLit iter && (chkI k it iter && (chkT k t tg && chkSs xs hs k body ys))
    | _ => false)
  | .whl t body, s => (match s with
    | .While c ys [] _ => chkC k t c && chkSs xs hs k body ys
    | _ => false)
  | .brk, s => (match s with
    | .Break _ => true
    | _ => false)
  | .cnt, s => (match s with
    | .Continue _ => true
    | _ => false)
  | .pss, s => (match s with
    | .Pass _ => true
    | _ => false)
  | .rse c es, s => (match s with
    | .Raise (some (.Call (.Name x _) ys [] _)) none _ => x == c && (xs.contains c && (glB k.sc c && chkEs k es ys))
    | _ => false)
  | .tri body cs nm suite, s => (match s with
    | .Try ys [.ExceptHandler (some (.Name x _)) none (b0 :: us) _] [] [] _ => nm.isNone && (cs == [x] && (hs.contains x && (glB k.sc x && (chkSs xs hs k body ys && chkU k suite (b0 :: us)))))
    | _ => false)
def chkSs (xs hs : List Str) (k : Ck) : LSs → List Stmt → Bool
  | .nil, ys => (match ys with
    | [] => true
    | _ => false)
  | .cons s ss, ys => (match ys with
    | y :: ys => chkS xs hs k s y && chkSs xs hs k ss ys
    | _ => false)
end
mutual
theorem sndS {xs hs : List Str} {N : Cn} {cf : CF} {F0 H0 : Hp} {rho0 : List Addr} : ∀ (ls : LS) {k : Ck} {X : Cx} {W : WX} (s : Stmt), SXk xs hs N cf k X W → chkS xs hs k ls s = true → PS X s (rdS N cf X.K X.w X.mg F0 H0 rho0 W ls)
  | .asg t e, k, X, W, s, o, h => by
    unfold chkS at h
    split at h
    · rcases Bool.or_eq_true_iff.mp h with h | h
      · obtain ⟨h1, h2⟩ := ba h
        obtain ⟨h3, h4⟩ := ba h2
        obtain ⟨h5, h6⟩ := ba h4
        obtain ⟨h7, h8⟩ := ba h6
        exact s_asg (by simpa using h1) (by simpa using h3) h5 o.ok (sndE e _ o.ok h8) (g_all o.ok t _ h7)
      · unfold chkLc at h
        split at h
        · obtain ⟨h1, h2⟩ := ba h
          obtain ⟨h3, h4⟩ := ba h2
          obtain ⟨h5, h6⟩ := ba h4
          obtain ⟨h7, h8⟩ := ba h6
          obtain ⟨h9, ha⟩ := ba h8
          unfold chkE at ha
          split at ha
          · rename_i heq
            cases heq
            obtain ⟨i1, i2⟩ := ba ha
            obtain ⟨i3, i4⟩ := ba i2
            obtain ⟨i5, i6⟩ := ba i4
            obtain ⟨i7, i8⟩ := ba i6
            obtain ⟨i9, j0⟩ := ba i8
            obtain ⟨j1, j2⟩ := ba j0
            exact s_lc o.ok (by simpa using h1) (by simpa using h3) (by simpa using h5) h7 (by simpa using h9) i1 (by simpa using i3) i5 (fun s H C cl fp => g_all o.ok.blk _ _ i7) (sndI _ _ _ o.ok i9) (fun s H C cl fp => sndK _ _ o.ok.blk j1) (fun s H C cl fp => sndE _ _ o.ok.blk j2)
          · cases ha
        · cases h
    · cases h
  | .par is es, k, X, W, s, o, h => by
    unfold chkS at h
    split at h
    · obtain ⟨h1, h2⟩ := ba h
      obtain ⟨h3, h4⟩ := ba h2
      obtain ⟨h5, h6⟩ := ba h4
      obtain ⟨h7, h8⟩ := ba h6
      obtain ⟨h9, ha⟩ := ba h8
      obtain ⟨hb, hc⟩ := ba ha
      exact s_par2 o.ok (by simpa using h1) (by simpa using h3) (by simpa using h5) (by simpa using h7) (by simpa using h9) (by simpa using hb) (sndEs es _ o.ok hc)
    · obtain ⟨h1, h2⟩ := ba h
      obtain ⟨h3, h4⟩ := ba h2
      obtain ⟨h5, h6⟩ := ba h4
      obtain ⟨h7, h8⟩ := ba h6
      obtain ⟨h9, ha⟩ := ba h8
      obtain ⟨hb, hc⟩ := ba ha
      obtain ⟨hd, he⟩ := ba hc
      obtain ⟨hf, hg⟩ := ba he
      obtain ⟨hh, hi⟩ := ba hg
      obtain ⟨hj, hk⟩ := ba hi
      exact s_par3 o.ok (by simpa using h1) (by simpa using h3) (by simpa using h5) (by simpa using h7) (by simpa using h9) (by simpa using hb) (by simpa using hd) (by simpa using hf) (by simpa using hh) (by simpa using hj) (sndEs es _ o.ok hk)
    · cases h
  | .setI a i e, k, X, W, s, o, h => by
    unfold chkS at h
    split at h
    · obtain ⟨h1, h2⟩ := ba h
      obtain ⟨h3, h4⟩ := ba h2
      obtain ⟨h5, h6⟩ := ba h4
      obtain ⟨h7, h8⟩ := ba h6
      exact s_setI (by simpa using h1) (by simpa using h3) (sndE a _ o.ok h5) (sndE i _ o.ok h7) (sndE e _ o.ok h8)
    · cases h
  | .ex e, k, X, W, s, o, h => by
    unfold chkS at h
    split at h
    · obtain ⟨h1, h2⟩ := ba h
      exact s_ex (by simpa using h1) (sndE e _ o.ok h2)
    · cases h
  | .ret e, k, X, W, s, o, h => by
    unfold chkS at h
    split at h
    · exact s_ret (sndE e _ o.ok h)
    · cases h
  | .ite t a b, k, X, W, s, o, h => by
    unfold chkS at h
    split at h
    · obtain ⟨h1, h2⟩ := ba h
      obtain ⟨h3, h4⟩ := ba h2
      exact s_ite (sndC t _ o.ok h1).pt (sndSs a _ o h3) (sndSs b _ o h4)
    · cases h
  | .loop t it body, k, X, W, s, o, h => by
    unfold chkS at h
    split at h
    · obtain ⟨h1, h2⟩ := ba h
      obtain ⟨h3, h4⟩ := ba h2
      obtain ⟨h5, h6⟩ := ba h4
      exact s_loop o.ok o.hp (by simpa using h1) (sndI it _ _ o.ok h3) (g_all o.ok t _ h5) (sndSs body _ o h6)
    · cases h
  | .whl t body, k, X, W, s, o, h => by
    unfold chkS at h
    split at h
    · obtain ⟨h1, h2⟩ := ba h
      exact s_whl o.hp (sndC t _ o.ok h1).pt (sndSs body _ o h2)
    · cases h
  | .brk, k, X, W, s, o, h => by
    unfold chkS at h
    split at h
    · exact s_brk
    · cases h
  | .cnt, k, X, W, s, o, h => by
    unfold chkS at h
    split at h
    · exact s_cnt
    · cases h
  | .pss, k, X, W, s, o, h => by
    unfold chkS at h
    split at h
    · exact s_pss
    · cases h
  | .rse c es, k, X, W, s, o, h => by
    unfold chkS at h
    split at h
    · obtain ⟨h1, h2⟩ := ba h
      obtain ⟨h3, h4⟩ := ba h2
      obtain ⟨h5, h6⟩ := ba h4
      rw [eq_of_beq h1]
      exact s_rse o (by simpa using h3) h5 h6
    · cases h
  | .tri body cs nm suite, k, X, W, s, o, h => by
    unfold chkS at h
    split at h
    · obtain ⟨h1, h2⟩ := ba h
      obtain ⟨h3, h4⟩ := ba h2
      obtain ⟨h5, h6⟩ := ba h4
      obtain ⟨h7, h8⟩ := ba h6
      obtain ⟨h9, ha⟩ := ba h8
      rw [eq_of_beq h3]
      cases nm with
      | some i => cases h1
      | none => exact s_try o (by simpa using h5) h7 (fun W' pn xe tk hp => sndSs body _ (o.tr tk hp) h9) ha
    · cases h
theorem sndSs {xs hs : List Str} {N : Cn} {cf : CF} {F0 H0 : Hp} {rho0 : List Addr} : ∀ (ls : LSs) {k : Ck} {X : Cx} {W : WX} (s : List Stmt), SXk xs hs N cf k X W → chkSs xs hs k ls s = true → PSs X s (rdSs N cf X.K X.w X.mg F0 H0 rho0 W ls)
  | .nil, k, X, W, s, o, h => by
    unfold chkSs at h
    split at h
    · exact ss_nil
    · cases h
  | .cons l ls, k, X, W, s, o, h => by
    unfold chkSs at h
    split at h
    · obtain ⟨h1, h2⟩ := ba h
      exact ss_cons (sndS l _ o h1) (sndSs ls _ o h2)
    · cases h
end
end Far

set_option Elab.async false
set_option linter.all false
set_option maxRecDepth 100000
set_option maxHeartbeats 4000000
/-! All functions of a table; the head's Hook. -/
namespace Far
open PySem PySem.Spec PyProof.Rows L2

def fnK (F : LFun) (sc : Scope) : Ck := ⟨F.names, sc, fun _ => true⟩
def fnB (F : LFun) (sc : Scope) : Bool := (sc.kind == .function) && (!sc.isCoroutine && (!sc.isGenerator && (decide F.names.Nodup && ((F.names.take F.params.length == F.params) && ((F.params.all fun x => sc.names.lookup x == some .local || sc.names.lookup x == some .cell) && sc.names.all fun y => y.2 != .free)))))
theorem fnB_ok {F : LFun} {sc : Scope} (h : fnB F sc = true) : FnScope F.names F.params sc := by
  obtain ⟨h1, h2⟩ := ba h
  obtain ⟨h3, h4⟩ := ba h2
  obtain ⟨h5, h6⟩ := ba h4
  obtain ⟨h7, h8⟩ := ba h6
  obtain ⟨h9, ha⟩ := ba h8
  obtain ⟨hb, hc⟩ := ba ha
  refine ⟨by simpa using h1, by simpa using h3, by simpa using h5, of_decide_eq_true h7, by simpa using h9, fun x hx => ?_, fun y hy => ?_⟩
  · have := List.all_eq_true.mp hb x hx
    simpa using this
  · have := List.all_eq_true.mp hc y hy
    simpa using this
/-- a def of the text is this function -/
def FnF (xs hs : List Str) (K : PySem.W.Frag) (mg : Str → Option Value) (f : Str) (F : LFun) : Prop := ∃ (a : Addr) (fd : FuncData) (x qual : Str) (params : Arguments) (body : List Stmt) (scope : Scope) (kws : List (Str × V)),
  mg f = some (.ref a) ∧ FunD K x qual params body scope [] kws a fd ∧ fnB F scope = true ∧ chkSs xs hs (fnK F scope) F.body body = true ∧ Binds K fd F.params []
structure Glb (xs hs : List Str) (N : Cn) (T : Str → Option LFun) (P : Program) (w : World) (K : PySem.W.Frag) (mg : Str → Option Value) (base : Heap) : Prop where
  con : ∀ x u, N.g x = some u → ∃ v z, mg x = some z ∧ RelV v z ∧ CV K w (fun _ => none) [] u v
  free : ∀ x ∈ bltNames, mg x = none
  rse : ∀ c ∈ xs, RsC0 N P w K mg base c
  han : ∀ c ∈ hs, ∃ v, mg c = some v
  sub : ∀ e c b, N.sub e c = some b → ∃ ve vc, mg e = some ve ∧ mg c = some vc ∧ PySem.W.exmOne K ve vc = some b
  fns : ∀ f F, T f = some F → FnF xs hs K mg f F
  has : ∀ f, N.has f = true → ∃ F, T f = some F
section
variable {xs hs : List Str} {N : Cn} {T : Str → Option LFun} {P : Program} {w : World} {K : PySem.W.Frag} {mg : Str → Option Value} {base : Heap}
theorem start_ok {F H : Hp} {rho : List Addr} {us : List U} {vs : List V} (c : CVs K w F rho us vs) (ns : List Str) : SlotsOk K w F H rho (startU ns.length us) (start ns vs) ∧ ∀ (i : Nat) (ws : List U), (startU ns.length us)[i]? ≠ some (.own ws) := by
  have hl := c.length
  have no : ∀ (i : Nat) (ws : List U), (startU ns.length us)[i]? ≠ some (.own ws) := fun i ws e => by
    have m := List.mem_of_getElem? e
    unfold startU at m
    rcases List.mem_append.mp m with m | m
    · obtain ⟨u, _, z⟩ := List.mem_map.mp m
      cases z
    · cases (List.mem_replicate.mp m).2
  refine ⟨⟨?_, fun i s e => ?_, fun i j us' ws' p h1 => absurd h1 (no i us')⟩, no⟩
  · unfold startU L2.start
    simp [hl]
  · unfold startU at e
    unfold L2.start
    by_cases hi : i < us.length
    · rw [List.getElem?_append_left (by simpa using hi), List.getElem?_map] at e
      cases eu : us[i]? with
      | none => rw [eu] at e; cases e
      | some u =>
        rw [eu] at e
        cases e
        obtain ⟨v, e1, e2⟩ := c.get eu
        exact ⟨some v, by rw [List.getElem?_append_left (by simp; omega), List.getElem?_map, e1]; rfl, v, rfl, e2⟩
    · rw [List.getElem?_append_right (by simpa using hi)] at e
      have hs : s = .no := (List.mem_replicate.mp (List.mem_of_getElem? e)).2
      subst hs
      have hlt : i - us.length < ns.length - us.length := by
        have := (List.getElem?_eq_some_iff.mp e).1
        simpa using this
      refine ⟨none, ?_, trivial⟩
      rw [List.getElem?_append_right (by simp; omega)]
      simp only [List.length_map]
      rw [List.getElem?_replicate, if_pos (by omega)]
/-- calls at most n deep keep the evaluator's word -/
def CallsN (N : Cn) (T : Str → Option LFun) (P : Program) (w : World) (K : PySem.W.Frag) (mg : Str → Option Value) (base : Heap) (n : Nat) : Prop := ∀ f : Str, N.has f = true → ∃ a fd ps, mg f = some (.ref a) ∧ PySem.W.keepIn K (.ref a) = true ∧ FnOk P w K mg base (L2.CX P w) (n + 3) a fd ps (spOf K w mg (callN N T n) f ps) ∧ L2.Binds K fd ps [] ∧
    ∀ us S, callN N T n f us S ≠ .bad → us.length = ps.length
theorem callN_eq {f : Str} {F : LFun} {n : Nat} {us : List U} {S : Sto} (hF : T f = some F) : callN N T (n + 1) f us S = if us.length = F.params.length then endU (evSs N (callN N T n) F.body (startU F.names.length us) S) else .bad := by
  show (match T f with
    | some F => if us.length = F.params.length then endU (evSs N (callN N T n) F.body (startU F.names.length us) S) else .bad
    | none => .bad) = _
  rw [hF]
theorem call_step (G : Glb xs hs N T P w K mg base) {n : Nat} (ih : CallsN N T P w K mg base n) {f : Str} {F : LFun} (hF : T f = some F) {a : Addr} {fd : FuncData} {x qual : Str} {params : Arguments} {body : List Stmt} {scope : Scope} {kws : List (Str × V)} (FD : FunD K x qual params body scope [] kws a fd)
    (hB : fnB F scope = true) (hC : chkSs xs hs (fnK F scope) F.body body = true) : FnOk P w K mg base (L2.CX P w) (n + 1 + 3) a fd F.params (spOf K w mg (callN N T (n + 1)) f F.params) := by
  refine FD.ok (k := n + 3) (fnB_ok hB) (fun vs H Q E ⟨_, _, _, _, _, _, hl, _⟩ => hl) (fun cdv A outer s H vs Q E hr hsp => ?_)
  obtain ⟨F0, rho0, S, us, st, cs, hl, post⟩ := hsp
  let X : Cx := cxOf (L2.CX P w) P w K mg base F.names qual scope a cdv A outer s H E
  let W : WX := fun c d _ H => E c d H
  have o : SXk xs hs N (callN N T n) (fnK F scope) X W := {
    ok := ⟨rfl, rfl, fun _ _ => rfl, (fnB_ok hB).nd, rfl, hr.units, G.con, G.free, takes_of rfl rfl rfl rfl, ⟨n + 3, hr, ih⟩⟩
    hp := passes_of rfl
    stk := rfl
    frm := rfl
    rse := G.rse
    han := G.han
    room3 := hr.mono (by omega)
    sub := G.sub }
  have main := sndSs (F0 := F0) (H0 := H) (rho0 := rho0) F.body body o hC
  refine ⟨_, main, F0, rho0, startU F.names.length us, S, ⟨st, (start_ok cs F.names).1, Grow.refl _ _ _, fun i ws p h1 _ => absurd h1 ((start_ok (H := H) cs F.names).2 i ws)⟩, ?_⟩
  rw [callN_eq hF, if_pos (by rw [cs.length, hl])] at post
  cases er : evSs N (callN N T n) F.body (startU F.names.length us) S with
  | nx σ1 S1 =>
    rw [er] at post
    exact fun F1 H1 rho1 sv1 fs1 _ _ => post _ F1 H1 rho1 fs1.gr fs1.st .non
  | rt u S1 =>
    rw [er] at post
    exact fun v F1 H1 rho1 g1 st1 c1 => post v F1 H1 rho1 g1 st1 c1
  | exc x1 σ1 S1 =>
    rw [er] at post
    exact fun c d F1 H1 rho1 sv1 fs1 _ _ xr => post c d F1 H1 rho1 fs1.gr fs1.st xr
  | bk σ1 S1 => rw [er] at post; exact post.elim
  | ct σ1 S1 => rw [er] at post; exact post.elim
  | bad => rw [er] at post; exact post.elim
theorem calls_ok (G : Glb xs hs N T P w K mg base) : ∀ n : Nat, CallsN N T P w K mg base n
  | 0, f, h => by
    obtain ⟨F, hF⟩ := G.has f h
    obtain ⟨a, fd, x, qual, params, body, scope, kws, m, FD, hB, hC, hb⟩ := G.fns f F hF
    refine ⟨a, fd, F.params, m, FD.kp, ⟨fun vs H Q E ⟨_, _, _, _, _, _, hl, _⟩ => hl, fun A outer s H args us vs Q E hr e0 hb r hsp => ?_⟩, hb, fun us S hn => absurd rfl hn⟩
    obtain ⟨F0, rho0, S, us, st, cs, hl, post⟩ := hsp
    exact post.elim
  | n + 1, f, h => by
    obtain ⟨F, hF⟩ := G.has f h
    obtain ⟨a, fd, x, qual, params, body, scope, kws, m, FD, hB, hC, hb⟩ := G.fns f F hF
    refine ⟨a, fd, F.params, m, FD.kp, call_step G (calls_ok G n) hF FD hB hC, hb, fun us S hn => ?_⟩
    by_cases z : us.length = F.params.length
    · exact z
    · refine absurd ?_ hn
      rw [callN_eq hF, if_neg z]
end

/-! ### facts of classes of errors -/
def oexB (K : PySem.W.Frag) (C : Addr) : Bool := (match K.lookup C with
  | some ⟨.type "type", _, .cls cd, sl⟩ => (match cd.mro, sl.toList with
    | .ref C' :: bm, [_, _, _, _, some (.builtin n), _] => (C' == C) && ((n == "ValueError.__new__") && (!cd.hasDel && (cd.hasDict && PySem.HandSPX.refsVE bm)))
    | _, _ => false)
  | _ => false) && (He.eqO (PySem.W.findIn K (.ref C) "__setattr__") (some (some (.builtin "object.__setattr__"))) && (decide (PySem.W.subIn K (.ref C) (.type "BaseException") = some true) && (decide (PySem.W.typeIn K (.ref C) = some (.type "type")) && PySem.W.keepIn K (.ref C))))
theorem oexB_ok {K : PySem.W.Frag} {C : Addr} (h : oexB K C = true) : OexC K C := by
  obtain ⟨h1, h2⟩ := ba h
  obtain ⟨h3, h4⟩ := ba h2
  obtain ⟨h5, h6⟩ := ba h4
  obtain ⟨h7, h8⟩ := ba h6
  refine ⟨?_, He.eqO_ok h3, of_decide_eq_true h5, of_decide_eq_true h7, h8⟩
  split at h1
  · rename_i dd cd sl ho
    split at h1
    · rename_i C' bm k0 k1 k2 k3 n k5 hm hs
      simp only [Bool.and_eq_true, beq_iff_eq, Bool.not_eq_true'] at h1
      obtain ⟨rfl, rfl, hdel, hdc, hv⟩ := h1
      obtain ⟨nm, bs, mro, ns, qn, hd, sn, sub, ab, col, del⟩ := cd
      dsimp only at hm hdel hdc
      subst hm hdel hdc
      have hsl : sl = #[k0, k1, k2, k3, some (.builtin "ValueError.__new__"), k5] := by
        obtain ⟨l⟩ := sl
        simp only at hs
        rw [hs]
      subst hsl
      exact ⟨nm, qn, ns, bs, bm, sn, sub, ab, col, dd, k0, k1, k2, k3, k5, ho, hv⟩
    · cases h1
  · cases h1
/-- ValueError.__init__; the base class's reading -/
def veB (K : PySem.W.Frag) : Bool := match PySem.W.findCls K (.type "ValueError") (.type "type") "__init__" with
  | some (.val (.builtin s)) => s == "ValueError.__init__"
  | _ => false
theorem veB_ok {K : PySem.W.Frag} (h : veB K = true) : PySem.W.findCls K (.type "ValueError") (.type "type") "__init__" = some (.val (.builtin "ValueError.__init__")) := by
  unfold veB at h
  split at h
  · rename_i s e
    rw [e, eq_of_beq h]
  · cases h
def baseB (K : PySem.W.Frag) (B : Addr) : Bool := PySem.W.readsIn K B (.type "type") && (He.eqO (PySem.W.specialIn K (.ref B) "__getattribute__") (some (some (.builtin "type.__getattribute__"))) && (match PySem.W.findCls K (.ref B) (.type "type") "__init__" with
  | some (.val (.ref a)) => a == He.ma K B "__init__"
  | _ => false))
theorem baseB_ok {K : PySem.W.Frag} {B : Addr} (h : baseB K B = true) : ClX.CRead K B (.type "type") ∧ PySem.W.findCls K (.ref B) (.type "type") "__init__" = some (.val (.ref (He.ma K B "__init__"))) := by
  obtain ⟨h1, h2⟩ := ba h
  obtain ⟨h3, h4⟩ := ba h2
  refine ⟨⟨h1, He.eqO_ok h3⟩, ?_⟩
  split at h4
  · rename_i a e
    rw [e, eq_of_beq h4]
  · cases h4

/-! ### the Hook -/
/-- what is looked at: what the module's names reach in n steps, and the row of statics -/
def frF (g : Addr → Option Obj) (n : Nat) : PySem.W.Frag := He.frG g (He.asD g n ++ [cStatics])
def obsF (n : Nat) (fa : List He.Fa) (fn : List He.DefD) (ts : List He.Tab) (ck : PySem.W.Frag → Bool) (g : Addr → Option Obj) : He.AlT × Bool := (He.obsT fa fn ts (frF g n), ck (frF g n))
def hookF (n : Nat) (fa : List He.Fa) (fn : List He.DefD) (ts : List He.Tab) (ck : PySem.W.Frag → Bool) : PySem.W.Hook where
  α := He.AlT × Bool
  obs := fun s => obsF n fa fn ts ck s.heap.get?
  val := fun w => (He.valT fn ts w, true)
  says := fun w h => ∃ K : PySem.W.Frag, K.In h ∧ He.SaysT fa fn ts w K ∧ ck K = true
  of := fun _ _ e => ⟨_, He.frG_in, congrArg Prod.fst e, congrArg Prod.snd e⟩
  keeps := fun _ _ _ ⟨K, hK, c⟩ k => ⟨K, PySem.W.Frag.In.keeps hK k, c⟩
theorem obsF_eq {n : Nat} {fa : List He.Fa} {fn : List He.DefD} {ts : List He.Tab} {ck : PySem.W.Frag → Bool} {g : Addr → Option Obj} {s : Shared} (h : ∀ a, g a = s.heap.get? a) : obsF n fa fn ts ck g = (hookF n fa fn ts ck).obs s := by
  have e : g = s.heap.get? := funext h
  rw [e] <;> rfl
end Far

set_option Elab.async false
set_option linter.all false
set_option maxRecDepth 100000
set_option maxHeartbeats 4000000
/-! The end of a law by the evaluator. -/
namespace Far
open PySem PySem.Spec PyProof.Rows L2
/-- the j-th statement of a class's body -/
def methOf (st : Stmt) (j : Nat) : Stmt := match st with
  | .ClassDef _ _ _ b _ _ _ _ _ _ _ => b.getD j (.Pass ⟨0, 0, 0, 0⟩)
  | _ => .Pass ⟨0, 0, 0, 0⟩
theorem walk_far {l : PySem.W.OpenLaw} {n k : Nat} {q : Program} {loose : List Str} {XP : (Str → Option Value) → Heap → Prop} {YP : World → Heap → Prop} {d : DefRec} {x : Str}
    (hn : l.most = some n) (hn2 : n ≤ sizeLine) (hdf : d.params.defaults = []) (hr : Room k callerA)
    (F : ∀ (w : World) (mg : Str → Option Value) (fa : Addr) (h : Heap), YP w h → h.Ns mainGlobals mg → mg d.name = some (.ref fa) →
      ∃ (K : PySem.W.Frag) (fd : FuncData) (sp : Sp), K.In h ∧ (∀ (s : Shared) (u : Value), BindsTo s fd ⟨[u], []⟩ [(x, u)]) ∧
        (∀ (H : Hp) (a : Addr) (ns : List Int), ns.length ≤ n → (∀ z ∈ ns, Builtin.Int.intBits z ≤ 1048576) → SqL K H a (ns.map V.int) → sp [.ref a] H (fun v _ => v = .bl true) fun _ _ _ => False) ∧
        ∀ base : Heap, K.In base → base.Ns mainGlobals mg → FnOk l.prog w K mg base (L2.CX l.prog w) k fa fd [x] sp) :
    PySem.W.WalkO q loose XP YP l.row.toRowW d [] (fun f vs => PySem.call f vs) := by
  refine Att.attach_callB hn hdf fun w s₀ s₁ mg mb fa o pm cd doc a vs ns G Y ho hd hcd hmg hobj hints hlen hbits hg => ?_
  obtain ⟨K, fd, sp, KX, hb, hsp, hF⟩ := F w mg fa _ Y G.T.g hmg
  refine law_call KX G.T.g G.T.b G.T.builtins G.T.nolimit hg hobj hints (Nat.le_trans hlen hn2) hr hF hb (fun H _ hS => hsp H a ns hlen hbits hS) fun H e s' z => ?_
  obtain ⟨_, _, _, _, _, _, _, _, _, _, _, _, z⟩ := z
  exact z
theorem cvs_ints {K : PySem.W.Frag} {w : World} {F : Hp} {rho : List Addr} : ∀ ns : List Int, CVs K w F rho (ns.map U.int) (ns.map V.int)
  | [] => .nil
  | n :: ns => .cons (.int n) (cvs_ints ns)
/-- the law's def at a script -/
theorem sp_start {K : PySem.W.Frag} {w : World} {mg : Str → Option Value} {cf : CF} {H : Hp} {a : Addr} {ns : List Int} {x : Str} {f : Str} (hS : SqL K H a (ns.map V.int)) (h : ∃ S', cf f [.fz (ns.map U.int)] [] = .ok (.bl true) S') :
    spOf K w mg cf f [x] [.ref a] H (fun v _ => v = .bl true) (fun _ _ _ => False) := by
  obtain ⟨S', h⟩ := h
  refine ⟨H, [], [], [.fz (ns.map U.int)], ⟨Same.refl _, rfl, List.nodup_nil, fun n b o e => by simp at e⟩, .cons (.fz hS (cvs_ints ns)) .nil, rfl, ?_⟩
  rw [h]
  intro b F' H' rho' g st c
  cases c
  rfl
/-! ### a written dict of texts -/
def kentL : List DictEntry → List (Str × V) → Bool
  | [], [] => true
  | e :: es, p :: ps => (match e.key with
    | .str x _ => (x == p.1) && (He.relB p.2 e.val && kentL es ps)
    | _ => false)
  | _, _ => false
theorem kentL_ok : ∀ {es : List DictEntry} {ps : List (Str × V)}, kentL es ps = true → KEnt es (ps.map fun p => .inr p.1) (ps.map (·.2))
  | [], [], _ => .nil
  | [], _ :: _, h => by cases h
  | _ :: _, [], h => by cases h
  | e :: es, p :: ps, h => by
    unfold kentL at h
    split at h
    · rename_i x t ek
      obtain ⟨h1, h2⟩ := ba h
      obtain ⟨h3, h4⟩ := ba h2
      rw [eq_of_beq h1] at ek
      exact .cons ek (He.relB_ok h3) (kentL_ok h4)
    · cases h
def kentB (K : PySem.W.Frag) (a : Addr) (ps : List (Str × V)) : Bool := match K.lookup a with
  | some ⟨_, _, .dict es _, _⟩ => kentL es.toList ps
  | _ => false
theorem kentB_ok {K : PySem.W.Frag} {w : World} {a : Addr} {ps : List (Str × V)} (h : kentB K a ps = true) (d : ∃ es n, KDict K w a es n) : KDc K w a (ps.map fun p => .inr p.1) (ps.map (·.2)) := by
  obtain ⟨es, n, D⟩ := d
  unfold kentB at h
  rw [D.at_] at h
  exact ⟨es, n, D, kentL_ok h⟩
end Far

set_option Elab.async false
set_option linter.all false
set_option maxRecDepth 100000
set_option maxHeartbeats 4000000
/-! Plain facts of the evaluator; the bag of a law. -/
namespace Far
open PySem L2
/- simp -/
section
variable (N : Cn) (cf : CF) (σ : Slots) (S : Sto)
@[simp] theorem evE_bad  : evE N cf σ (.bad) S = (.bad) := by first | (rw [evE]; done) | (rw [evE]; rfl)
@[simp] theorem evE_c (u : U) : evE N cf σ (.c u) S = (.ok u S) := by first | (rw [evE]; done) | (rw [evE]; rfl)
@[simp] theorem evE_v (i : Nat) : evE N cf σ (.v i) S = (match σ[i]? with
    | some (.val u) => .ok u S
    | _ => .bad) := by first | (rw [evE]; done) | (rw [evE]; rfl)
@[simp] theorem evE_b (i : Nat) : evE N cf σ (.b i) S = (.bad) := by first | (rw [evE]; done) | (rw [evE]; rfl)
@[simp] theorem evE_xf (i : Nat) (f : Str) : evE N cf σ (.xf i f) S = (.bad) := by first | (rw [evE]; done) | (rw [evE]; rfl)
@[simp] theorem evE_g (x : Str) : evE N cf σ (.g x) S = (retU (N.g x) S) := by first | (rw [evE]; done) | (rw [evE]; rfl)
@[simp] theorem evE_op (o : Bop) (a b : LE) : evE N cf σ (.op o a b) S = ((lookB (borOf σ a) (evE N cf σ a S) S).bind fun x S1 => (lookB (borOf σ b) (evE N cf σ b S1) S1).bind fun y S2 => retP (bop o S2 x y) S2) := by first | (rw [evE]; done) | (rw [evE]; rfl)
@[simp] theorem evE_neg (a : LE) : evE N cf σ (.neg a) S = ((evE N cf σ a S).bind fun x S1 => match x with
    | .int i => .ok (.int (-i)) S1
    | _ => .bad) := by first | (rw [evE]; done) | (rw [evE]; rfl)
@[simp] theorem evE_cmp (o : Cop) (a b : LE) : evE N cf σ (.cmp o a b) S = ((lookB (borOf σ a) (evE N cf σ a S) S).bind fun x S1 => (lookB (borOf σ b) (evE N cf σ b S1) S1).bind fun y S2 => retB (cop o S2 x y) S2) := by first | (rw [evE]; done) | (rw [evE]; rfl)
@[simp] theorem evE_chn (o o' : Cop) (a b c : LE) : evE N cf σ (.chn o o' a b c) S = ((evE N cf σ a S).bind fun x S1 => (evE N cf σ b S1).bind fun y S2 => match cop o S2 x y with
    | some true => (evE N cf σ c S2).bind fun z S3 => retB (cop o' S3 y z) S3
    | some false => .ok (.bl false) S2
    | none => .bad) := by first | (rw [evE]; done) | (rw [evE]; rfl)
@[simp] theorem evE_not (a : LE) : evE N cf σ (.not a) S = ((evE N cf σ a S).bind fun u S1 => match truth S1 u with
    | some k => .ok (.bl (!k)) S1
    | none => .bad) := by first | (rw [evE]; done) | (rw [evE]; rfl)
@[simp] theorem evE_and (a b : LE) : evE N cf σ (.and a b) S = ((evE N cf σ a S).bind fun x S1 => match x with
    | .bl true => evE N cf σ b S1
    | .bl false => .ok (.bl false) S1
    | _ => .bad) := by first | (rw [evE]; done) | (rw [evE]; rfl)
@[simp] theorem evE_or (a b : LE) : evE N cf σ (.or a b) S = ((evE N cf σ a S).bind fun x S1 => match x with
    | .bl true => .ok (.bl true) S1
    | .bl false => evE N cf σ b S1
    | _ => .bad) := by first | (rw [evE]; done) | (rw [evE]; rfl)
@[simp] theorem evE_ite (t : LC) (a b : LE) : evE N cf σ (.ite t a b) S = ((evT N cf σ t S).bind fun k S1 => if k = true then evE N cf σ a S1 else evE N cf σ b S1) := by first | (rw [evE]; done) | (rw [evE]; rfl)
@[simp] theorem evE_tup (es : LEs) : evE N cf σ (.tup es) S = ((evEs N cf σ es S).bind fun us S1 => if us.length ≤ big then .ok (.tup us) S1 else .bad) := by first | (rw [evE]; done) | (rw [evE]; rfl)
@[simp] theorem evE_lst (es : LEs) : evE N cf σ (.lst es) S = ((evEs N cf σ es S).bind fun us S1 => if us.length ≤ big then .ok (.lst us) S1 else .bad) := by first | (rw [evE]; done) | (rw [evE]; rfl)
@[simp] theorem evE_sto (es : LEs) : evE N cf σ (.sto es) S = ((evEs N cf σ es S).bind fun us S1 => if us.length ≤ big then .ok (.ref S1.length) (S1 ++ [.lst us]) else .bad) := by first | (rw [evE]; done) | (rw [evE]; rfl)
@[simp] theorem evE_dct (ks : List Key) (es : LEs) : evE N cf σ (.dct ks es) S = ((evEs N cf σ es S).bind fun us S1 => if us.length = ks.length ∧ ks.length ≤ 15 ∧ ks.Nodup then .ok (.dct ks us) S1 else .bad) := by first | (rw [evE]; done) | (rw [evE]; rfl)
@[simp] theorem evE_sub (a i : LE) : evE N cf σ (.sub a i) S = ((lookB (borOf σ a) (evE N cf σ a S) S).bind fun x S1 => (evE N cf σ i S1).bind fun y S2 => retU (item S2 x y) S2) := by first | (rw [evE]; done) | (rw [evE]; rfl)
@[simp] theorem evE_slc (a : LE) (lo hi : LO) : evE N cf σ (.slc a lo hi) S = ((lookB (borOf σ a) (evE N cf σ a S) S).bind fun x S1 => (evO N cf σ lo S1).bind fun l S2 => (evO N cf σ hi S2).bind fun h S3 => retP (cut S3 x l h) S3) := by first | (rw [evE]; done) | (rw [evE]; rfl)
@[simp] theorem evE_fn (f : Fn) (e : LE) : evE N cf σ (.fn f e) S = ((lookB (borOf σ e) (evE N cf σ e S) S).bind fun x S1 => retP (fnc f S1 [x]) S1) := by first | (rw [evE]; done) | (rw [evE]; rfl)
@[simp] theorem evE_isi (a : LE) (t : Ty) : evE N cf σ (.isi a t) S = ((evE N cf σ a S).bind fun x S1 => retB (tyIs t x) S1) := by first | (rw [evE]; done) | (rw [evE]; rfl)
@[simp] theorem evE_isiT (a : LE) (ts : List Ty) : evE N cf σ (.isiT a ts) S = ((evE N cf σ a S).bind fun x S1 => if ts ≠ [] ∧ ts.length ≤ 100 then retB (tyAny ts x) S1 else .bad) := by first | (rw [evE]; done) | (rw [evE]; rfl)
@[simp] theorem evE_call (f : Str) (es : LEs) : evE N cf σ (.call f es) S = (if N.has f = true then (evEs N cf σ es S).bind fun us S1 => cf f us S1 else .bad) := by first | (rw [evE]; done) | (rw [evE]; rfl)
@[simp] theorem evEs_nil  : evEs N cf σ (.nil) S = (.ok [] S) := by first | (rw [evEs]; done) | (rw [evEs]; rfl)
@[simp] theorem evEs_cons (e : LE) (es : LEs) : evEs N cf σ (.cons e es) S = ((evE N cf σ e S).bind fun u S1 => (evEs N cf σ es S1).bind fun us S2 => .ok (u :: us) S2) := by first | (rw [evEs]; done) | (rw [evEs]; rfl)
@[simp] theorem evO_non  : evO N cf σ (.non) S = (.ok none S) := by first | (rw [evO]; done) | (rw [evO]; rfl)
@[simp] theorem evO_som (e : LE) : evO N cf σ (.som e) S = ((evE N cf σ e S).bind fun u S1 => match u with
    | .int i => .ok (some i) S1
    | _ => .bad) := by first | (rw [evO]; done) | (rw [evO]; rfl)
@[simp] theorem evC_non  : evC N cf σ (.non) S = (.ok true S) := by first | (rw [evC]; done) | (rw [evC]; rfl)
@[simp] theorem evC_som (e : LC) : evC N cf σ (.som e) S = (evT N cf σ e S) := by first | (rw [evC]; done) | (rw [evC]; rfl)
@[simp] theorem evI_seq (e : LE) : evI N cf σ (.seq e) S = ((evE N cf σ e S).bind fun u S1 => match u with
    | .tup us => .ok us S1
    | .lst us => .ok us S1
    | _ => .bad) := by first | (rw [evI]; done) | (rw [evI]; rfl)
@[simp] theorem evI_rng1 (b : LE) : evI N cf σ (.rng1 b) S = ((evE N cf σ b S).bind fun u S1 => match u with
    | .int j => if -100000000000000000 < j ∧ j < 100000 then .ok (rangeU 0 j) S1 else .bad
    | _ => .bad) := by first | (rw [evI]; done) | (rw [evI]; rfl)
@[simp] theorem evI_rng2 (a b : LE) : evI N cf σ (.rng2 a b) S = ((evE N cf σ a S).bind fun u S1 => (evE N cf σ b S1).bind fun w S2 => match u, w with
    | .int i, .int j => if -100000000000000000 < i ∧ i < 100000000000000000 ∧ -100000000000000000 < j ∧ j < i + 100000 then .ok (rangeU i j) S2 else .bad
    | _, _ => .bad) := by first | (rw [evI]; done) | (rw [evI]; rfl)
@[simp] theorem evT_and (a b : LC) : evT N cf σ (.and a b) S = ((evT N cf σ a S).bind fun k S1 => if k = true then evT N cf σ b S1 else .ok false S1) := by first | (rw [evT]; done) | (rw [evT]; rfl)
@[simp] theorem evT_or (a b : LC) : evT N cf σ (.or a b) S = ((evT N cf σ a S).bind fun k S1 => if k = true then .ok true S1 else evT N cf σ b S1) := by first | (rw [evT]; done) | (rw [evT]; rfl)
@[simp] theorem evT_not (a : LC) : evT N cf σ (.not a) S = ((evT N cf σ a S).bind fun k S1 => .ok (!k) S1) := by first | (rw [evT]; done) | (rw [evT]; rfl)
@[simp] theorem evT_cmp (o : Cop) (a b : LE) : evT N cf σ (.cmp o a b) S = ((lookB (borOf σ a) (evE N cf σ a S) S).bind fun x S1 => (lookB (borOf σ b) (evE N cf σ b S1) S1).bind fun y S2 => retT (cop o S2 x y) S2) := by first | (rw [evT]; done) | (rw [evT]; rfl)
@[simp] theorem evT_chn (o o' : Cop) (a b c : LE) : evT N cf σ (.chn o o' a b c) S = ((evE N cf σ a S).bind fun x S1 => (evE N cf σ b S1).bind fun y S2 => match cop o S2 x y with
    | some true => (evE N cf σ c S2).bind fun z S3 => retT (cop o' S3 y z) S3
    | some false => .ok false S2
    | none => .bad) := by first | (rw [evT]; done) | (rw [evT]; rfl)
@[simp] theorem evT_e (e : LE) : evT N cf σ (.e e) S = ((evE N cf σ e S).bind fun u S1 => match truth S1 u with
    | some k => .ok k S1
    | none => .bad) := by first | (rw [evT]; done) | (rw [evT]; rfl)
@[simp] theorem evS_asg (t : LT) (e : LE) : evS N cf (.asg t e) σ S = ((evE N cf σ e S).then σ fun u S1 => orBad (assign t u σ) S1) := by first | (rw [evS]; done) | (rw [evS]; rfl)
@[simp] theorem evS_par (is : List Nat) (es : LEs) : evS N cf (.par is es) σ S = ((evEs N cf σ es S).then σ fun us S1 => orBad (setVals is us σ) S1) := by first | (rw [evS]; done) | (rw [evS]; rfl)
@[simp] theorem evS_setI (o i e : LE) : evS N cf (.setI o i e) σ S = ((evE N cf σ e S).then σ fun u S1 => (evE N cf σ o S1).then σ fun x S2 => (evE N cf σ i S2).then σ fun y S3 => match stoSet S3 x y u with
    | some S4 => .nx σ S4
    | none => .bad) := by first | (rw [evS]; done) | (rw [evS]; rfl)
@[simp] theorem evS_ex (e : LE) : evS N cf (.ex e) σ S = ((evE N cf σ e S).then σ fun _ S1 => .nx σ S1) := by first | (rw [evS]; done) | (rw [evS]; rfl)
@[simp] theorem evS_ret (e : LE) : evS N cf (.ret e) σ S = ((evE N cf σ e S).then σ fun u S1 => .rt u S1) := by first | (rw [evS]; done) | (rw [evS]; rfl)
@[simp] theorem evS_ite (t : LC) (a b : LSs) : evS N cf (.ite t a b) σ S = ((evT N cf σ t S).then σ fun k S1 => if k = true then evSs N cf a σ S1 else evSs N cf b σ S1) := by first | (rw [evS]; done) | (rw [evS]; rfl)
@[simp] theorem evS_brk  : evS N cf (.brk) σ S = (.bk σ S) := by first | (rw [evS]; done) | (rw [evS]; rfl)
@[simp] theorem evS_cnt  : evS N cf (.cnt) σ S = (.ct σ S) := by first | (rw [evS]; done) | (rw [evS]; rfl)
@[simp] theorem evS_pss  : evS N cf (.pss) σ S = (.nx σ S) := by first | (rw [evS]; done) | (rw [evS]; rfl)
@[simp] theorem evS_rse (c : Str) (es : LEs) : evS N cf (.rse c es) σ S = ((evEs N cf σ es S).then σ fun us S1 => match N.xm c us with
    | some fs => .exc ⟨c, fs⟩ σ S1
    | none => .bad) := by first | (rw [evS]; done) | (rw [evS]; rfl)
@[simp] theorem evSs_nil  : evSs N cf (.nil) σ S = (.nx σ S) := by first | (rw [evSs]; done) | (rw [evSs]; rfl)
@[simp] theorem evSs_cons (s : LS) (ss : LSs) : evSs N cf (.cons s ss) σ S = ((evS N cf s σ S).seq fun σ1 S1 => evSs N cf ss σ1 S1) := by first | (rw [evSs]; done) | (rw [evSs]; rfl)
@[simp] theorem borOf_c (u : U) : borOf σ (.c u) = none := rfl
@[simp] theorem borOf_v (i : Nat) : borOf σ (.v i) = none := rfl
@[simp] theorem borOf_xf (i : Nat) (f : Str) : borOf σ (.xf i f) = none := rfl
@[simp] theorem borOf_g (x : Str) : borOf σ (.g x) = none := rfl
@[simp] theorem borOf_op (o : Bop) (a b : LE) : borOf σ (.op o a b) = none := rfl
@[simp] theorem borOf_neg (a : LE) : borOf σ (.neg a) = none := rfl
@[simp] theorem borOf_cmp (o : Cop) (a b : LE) : borOf σ (.cmp o a b) = none := rfl
@[simp] theorem borOf_chn (o o' : Cop) (a b c : LE) : borOf σ (.chn o o' a b c) = none := rfl
@[simp] theorem borOf_not (a : LE) : borOf σ (.not a) = none := rfl
@[simp] theorem borOf_and (a b : LE) : borOf σ (.and a b) = none := rfl
@[simp] theorem borOf_or (a b : LE) : borOf σ (.or a b) = none := rfl
@[simp] theorem borOf_ite (t : LC) (a b : LE) : borOf σ (.ite t a b) = none := rfl
@[simp] theorem borOf_tup (es : LEs) : borOf σ (.tup es) = none := rfl
@[simp] theorem borOf_lst (es : LEs) : borOf σ (.lst es) = none := rfl
@[simp] theorem borOf_sto (es : LEs) : borOf σ (.sto es) = none := rfl
@[simp] theorem borOf_dct (ks : List Key) (es : LEs) : borOf σ (.dct ks es) = none := rfl
@[simp] theorem borOf_sub (a i : LE) : borOf σ (.sub a i) = none := rfl
@[simp] theorem borOf_slc (a : LE) (lo hi : LO) : borOf σ (.slc a lo hi) = none := rfl
@[simp] theorem borOf_fn (f : Fn) (e : LE) : borOf σ (.fn f e) = none := rfl
@[simp] theorem borOf_isi (a : LE) (t : Ty) : borOf σ (.isi a t) = none := rfl
@[simp] theorem borOf_isiT (a : LE) (ts : List Ty) : borOf σ (.isiT a ts) = none := rfl
@[simp] theorem borOf_call (f : Str) (es : LEs) : borOf σ (.call f es) = none := rfl
@[simp] theorem borOf_bad  : borOf σ (.bad ) = none := rfl
@[simp] theorem borOf_lc (own : List Nat) (tg : LT) (it : LI) (cs : LK) (e : LE) : borOf σ (.lc own tg it cs e) = none := rfl
@[simp] theorem lookB_none (r : R U) : lookB none r S = r := rfl
@[simp] theorem retP_val (u : U) : retP (some (.val u)) S = .ok u S := rfl
@[simp] theorem retP_newL (us : List U) : retP (some (.newL us)) S = .ok (.lst us) S := rfl
@[simp] theorem retB_some (b : Bool) : retB (some b) S = .ok (.bl b) S := rfl
@[simp] theorem retT_some (b : Bool) : retT (some b) S = .ok b S := rfl
@[simp] theorem retU_some (u : U) : retU (some u) S = .ok u S := rfl
@[simp] theorem orBad_some : orBad (some σ) S = .nx σ S := rfl
@[simp] theorem assign_nm (i : Nat) (u : U) : assign (.nm i) u σ = some (σ.set i (.val u)) := by rw [assign]
/-- a loop's turn -/
def turnOf (t : LT) (body : LSs) (u : U) (σ : Slots) (S : Sto) : RS := match assign t u σ with
  | some σ1 => evSs N cf body σ1 S
  | none => .bad
@[simp] theorem evS_loop (t : LT) (it : LI) (body : LSs) : evS N cf (.loop t it body) σ S = (evI N cf σ it S).then σ fun us S1 => evFor (turnOf N cf t body) us σ S1 := by first | (rw [evS]; done) | (rw [evS]; rfl)
/-- a comprehension's turn -/
def lcTurn (own : List Nat) (tg : LT) (cs : LK) (e : LE) (u : U) (S : Sto) : R (Option U) := match assign tg u (wipeS σ own) with
  | some σ1 => (evC N cf σ1 cs S).bind fun k S3 => if k = true then (evE N cf σ1 e S3).bind fun w S4 => .ok (some w) S4 else .ok none S3
  | none => .bad
@[simp] theorem evE_lc (own : List Nat) (tg : LT) (it : LI) (cs : LK) (e : LE) : evE N cf σ (.lc own tg it cs e) S = (evI N cf σ it S).bind fun us S1 => if us.length ≤ big then evLc (lcTurn N cf σ own tg cs e) us [] S1 else .bad := by first | (rw [evE]; done) | (rw [evE]; rfl)
/-- what a handler makes of an end -/
def triOf (cs : List Str) (nm : Option Nat) (suite : LSs) (r : RS) : RS := match r with
  | .exc x σ1 S1 => (match subAny N.sub x.cls cs, nm with
    | some true, none => evSs N cf suite σ1 S1
    | some false, _ => .exc x σ1 S1
    | _, _ => .bad)
  | r => r
@[simp] theorem evS_tri (body : LSs) (cs : List Str) (nm : Option Nat) (suite : LSs) : evS N cf (.tri body cs nm suite) σ S = triOf N cf cs nm suite (evSs N cf body σ S) := by rw [evS]; cases evSs N cf body σ S <;> rfl
end

/- simp end -/
@[simp] theorem assign_st_tup (is : List Nat) (j : Nat) (us : List U) (σ : Slots) : assign (.st is j) (.tup us) σ = if is.length ≤ us.length then some ((assign.setAll is us σ).set j (.val (.lst (us.drop is.length)))) else none := by rw [assign]
@[simp] theorem assign_st_lst (is : List Nat) (j : Nat) (us : List U) (σ : Slots) : assign (.st is j) (.lst us) σ = if is.length ≤ us.length then some ((assign.setAll is us σ).set j (.val (.lst (us.drop is.length)))) else none := by rw [assign]
@[simp] theorem setAll_nil (us : List U) (σ : Slots) : assign.setAll [] us σ = σ := by unfold assign.setAll; rfl
@[simp] theorem setAll_cons (i : Nat) (is : List Nat) (u : U) (us : List U) (σ : Slots) : assign.setAll (i :: is) (u :: us) σ = assign.setAll is us (σ.set i (.val u)) := by
  show assign.setAll (i :: is) (u :: us) σ = _
  rw [assign.setAll]
theorem eqv_int (a b : Int) : PyData.eqv (.int a) (.int b) = decide (a = b) := by
  first | rfl | (simp [PyData.eqv]; done) | (unfold PyData.eqv; simp)
@[simp] theorem cop_eq_int (S : Sto) (a b : Int) : cop .eq S (.int a) (.int b) = some (decide (a = b)) := by
  have h : cop .eq S (.int a) (.int b) = some (PyData.eqv (.int a) (.int b)) := rfl
  rw [h, eqv_int]
@[simp] theorem cop_ne_int (S : Sto) (a b : Int) : cop .ne S (.int a) (.int b) = some (!decide (a = b)) := by
  have h : cop .ne S (.int a) (.int b) = some (!PyData.eqv (.int a) (.int b)) := rfl
  rw [h, eqv_int]
@[simp] theorem cop_lt_int (S : Sto) (a b : Int) : cop .lt S (.int a) (.int b) = some (decide (a < b)) := rfl
@[simp] theorem cop_le_int (S : Sto) (a b : Int) : cop .le S (.int a) (.int b) = some (decide (a ≤ b)) := rfl
@[simp] theorem cop_gt_int (S : Sto) (a b : Int) : cop .gt S (.int a) (.int b) = some (decide (b < a)) := rfl
@[simp] theorem cop_ge_int (S : Sto) (a b : Int) : cop .ge S (.int a) (.int b) = some (decide (b ≤ a)) := rfl
@[simp] theorem bop_add_int (S : Sto) (a b : Int) : bop .add S (.int a) (.int b) = some (.val (.int (a + b))) := rfl
@[simp] theorem bop_sub_int (S : Sto) (a b : Int) : bop .sub S (.int a) (.int b) = some (.val (.int (a - b))) := rfl
theorem bop_mul_int (S : Sto) (a b : Int) (h : b.natAbs < 18446744073709551616) : bop .mul S (.int a) (.int b) = some (.val (.int (a * b))) := by
  show (if a.natAbs < 18446744073709551616 ∨ b.natAbs < 18446744073709551616 then some (PR.val (.int (a * b))) else none) = _
  rw [if_pos (.inr h)]
theorem bop_mod_int (S : Sto) (a b : Int) (h : 0 < b) : bop .mod S (.int a) (.int b) = some (.val (.int (a % b))) := by
  show (if 0 < b then some (PR.val (.int (a % b))) else none) = _
  rw [if_pos h]
theorem bop_fdiv_int (S : Sto) (a b : Int) (h : 0 < b) (h2 : b < 18446744073709551616) : bop .fdiv S (.int a) (.int b) = some (.val (.int (a / b))) := by
  show (if 0 < b ∧ b < 18446744073709551616 then some (PR.val (.int (a / b))) else none) = _
  rw [if_pos ⟨h, h2⟩]
theorem bop_pow_int (S : Sto) (a b : Int) (h : 0 ≤ b) (h1 : b ≤ 1000) (h2 : a.natAbs < 18446744073709551616) : bop .pow S (.int a) (.int b) = some (.val (.int (a ^ b.toNat))) := by
  show (if 0 ≤ b ∧ b ≤ 1000 ∧ a.natAbs < 18446744073709551616 then some (PR.val (.int (a ^ b.toNat))) else none) = _
  rw [if_pos ⟨h, h1, h2⟩]
theorem bop_add_tup (S : Sto) (a b : List U) (h : a.length + b.length ≤ big) : bop .add S (.tup a) (.tup b) = some (.val (.tup (a ++ b))) := by
  show (if a.length + b.length ≤ big then some (PR.val (.tup (a ++ b))) else none) = _
  rw [if_pos h]
theorem atI_nn {α : Type} (xs : List α) (i : Int) (h : 0 ≤ i) (h2 : i < xs.length) : atI xs i = xs[i.toNat]? := by
  unfold atI ixN
  rw [if_pos h, if_pos h2]
  rfl
theorem item_lst (S : Sto) (us : List U) (i : Int) : item S (.lst us) (.int i) = atI us i := rfl
theorem item_tup (S : Sto) (us : List U) (i : Int) : item S (.tup us) (.int i) = atI us i := rfl
theorem item_ints (cells : List Int) (i : Int) (h : 0 ≤ i) (h2 : i < cells.length) : ∃ x : Int, ∀ S : Sto, item S (.lst (cells.map U.int)) (.int i) = some (.int x) := by
  have h3 : i.toNat < cells.length := by omega
  refine ⟨cells[i.toNat], fun S => ?_⟩
  rw [item_lst, atI_nn _ _ h (by simpa using h2), List.getElem?_map, List.getElem?_eq_getElem h3]
  rfl
theorem item_tup0 (S : Sto) (u : U) (us : List U) : item S (.tup (u :: us)) (.int 0) = some u := by
  rw [item_tup, atI_nn _ _ (by decide) (by simp)]
  rfl
theorem len_lst (S : Sto) (us : List U) : fnc .len S [.lst us] = some (.val (.int us.length)) := rfl
theorem len_tup (S : Sto) (us : List U) : fnc .len S [.tup us] = some (.val (.int us.length)) := rfl
/-! ### loops -/
theorem for_inv {turn : U → Slots → Sto → RS} (I : Slots → Sto → Prop) : ∀ (us : List U) (σ : Slots) (S : Sto), (∀ u ∈ us, ∀ σ S, I σ S → ∃ σ' S', turn u σ S = .nx σ' S' ∧ I σ' S') → I σ S → ∃ σ' S', evFor turn us σ S = .nx σ' S' ∧ I σ' S'
  | [], σ, S, _, h => ⟨σ, S, rfl, h⟩
  | u :: us, σ, S, ht, h => by
    obtain ⟨σ1, S1, e1, h1⟩ := ht u (by simp) σ S h
    obtain ⟨σ2, S2, e2, h2⟩ := for_inv I us σ1 S1 (fun w hw => ht w (by simp [hw])) h1
    refine ⟨σ2, S2, ?_, h2⟩
    rw [evFor, e1]
    exact e2
theorem lc_inv {turn : U → Sto → R (Option U)} (I : Sto → Prop) (P : U → Prop) : ∀ (us acc : List U) (S : Sto), (∀ u ∈ us, ∀ S, I S → ∃ w S', turn u S = .ok (some w) S' ∧ P w ∧ I S') → I S → ∃ ws S', evLc turn us acc S = .ok (.lst (acc ++ ws)) S' ∧ ws.length = us.length ∧ (∀ w ∈ ws, P w) ∧ I S'
  | [], acc, S, _, h => ⟨[], S, by rw [evLc, List.append_nil], rfl, by simp, h⟩
  | u :: us, acc, S, ht, h => by
    obtain ⟨w, S1, e1, p1, h1⟩ := ht u (by simp) S h
    obtain ⟨ws, S2, e2, l2, p2, h2⟩ := lc_inv I P us (acc ++ [w]) S1 (fun w hw => ht w (by simp [hw])) h1
    refine ⟨w :: ws, S2, ?_, by simp [l2], fun x hx => ?_, h2⟩
    · rw [evLc, e1]
      simp only [R.bindN_ok]
      rw [e2]
      simp
    · rcases List.mem_cons.mp hx with rfl | hx
      · exact p1
      · exact p2 x hx
theorem lc_map {turn : U → Sto → R (Option U)} (f : U → U) (S : Sto) : ∀ (us acc : List U), (∀ u ∈ us, turn u S = .ok (some (f u)) S) → evLc turn us acc S = .ok (.lst (acc ++ us.map f)) S
  | [], acc, _ => by rw [evLc, List.map_nil, List.append_nil]
  | u :: us, acc, ht => by
    rw [evLc, ht u (by simp)]
    simp only [R.bindN_ok]
    rw [lc_map f S us (acc ++ [f u]) (fun w hw => ht w (by simp [hw]))]
    simp
theorem bls_map (p : U → Bool) : ∀ us : List U, bls (us.map fun u => .bl (p u)) = some (us.map p)
  | [] => rfl
  | u :: us => by
    rw [List.map_cons, bls, bls_map p us]
    rfl
theorem all_map (S : Sto) (p : U → Bool) (us : List U) : fnc .all S [.lst (us.map fun u => .bl (p u))] = some (.val (.bl (us.all p))) := by
  show ((some (us.map fun u => U.bl (p u))).bind fun ws => (bls ws).map fun bs => PR.val (.bl (bs.all id))) = _
  rw [Option.bind_some, bls_map]
  simp [List.all_map]
/-! ### a bag, first in the store -/
def bagL (cells : List Int) (i c s : Int) : SO := .lst [.lst (cells.map U.int), .int i, .int c, .int s]
def Bg (o : SO) : Prop := ∃ cells i c s, o = bagL cells i c s ∧ 0 ≤ i ∧ 0 ≤ c ∧ 0 ≤ s
section
variable (cells : List Int) (i c s : Int) (R : Sto)
theorem bag0 : item (bagL cells i c s :: R) (.ref 0) (.int 0) = some (.lst (cells.map U.int)) := rfl
theorem bag1 : item (bagL cells i c s :: R) (.ref 0) (.int 1) = some (.int i) := rfl
theorem bag2 : item (bagL cells i c s :: R) (.ref 0) (.int 2) = some (.int c) := rfl
theorem bag3 : item (bagL cells i c s :: R) (.ref 0) (.int 3) = some (.int s) := rfl
theorem bagS1 (x : Int) : stoSet (bagL cells i c s :: R) (.ref 0) (.int 1) (.int x) = some (bagL cells x c s :: R) := rfl
theorem bagS2 (x : Int) : stoSet (bagL cells i c s :: R) (.ref 0) (.int 2) (.int x) = some (bagL cells i x s :: R) := rfl
theorem bagS3 (x : Int) : stoSet (bagL cells i c s :: R) (.ref 0) (.int 3) (.int x) = some (bagL cells i c x :: R) := rfl
end
end Far

set_option Elab.async false
set_option linter.all false
set_option maxRecDepth 100000
set_option maxHeartbeats 4000000
/-! Functions that several laws share: their terms, what they compute. -/
namespace Far.L
open PySem PySem.Spec PyProof.Rows L2
def f_law_bag : LFun := ⟨["_law_script"], ["_law_script", "_law_salt", "_law_cell"], (.cons (.asg (.nm 1) (.c (.int 9145)))
  (.cons (.loop (.nm 2) (.seq (.slc (.v 0) .non (.som (.c (.int 63))))) (.cons (.asg (.nm 1) (.op .mod (.op .add (.op .add (.op .mul (.v 1) (.c (.int 48271))) (.op .mod (.v 2) (.c (.int 2147483629)))) (.c (.int 11))) (.c (.int 2147483647))))
    .nil))
  (.cons (.ret (.sto (.cons (.fn .list (.slc (.v 0) .non (.som (.c (.int 63))))) (.cons (.c (.int 0)) (.cons (.c (.int 0)) (.cons (.v 1) .nil))))))
  .nil)))⟩
def f_law_pull : LFun := ⟨["_law_bag_here", "_law_amount"], ["_law_bag_here", "_law_amount", "_law_seed", "_law_cell", "_law_got"], (.cons (.ite (.and (.cmp .eq (.sub (.v 0) (.c (.int 2))) (.c (.int 0))) (.cmp .lt (.sub (.v 0) (.c (.int 1))) (.fn .len (.sub (.v 0) (.c (.int 0)))))) (.cons (.asg (.nm 3) (.sub (.sub (.v 0) (.c (.int 0))) (.sub (.v 0) (.c (.int 1)))))
    (.cons (.setI (.v 0) (.c (.int 1)) (.op .add (.sub (.v 0) (.c (.int 1))) (.c (.int 1))))
    (.cons (.ite (.cmp .ge (.v 3) (.op .pow (.c (.int 10)) (.c (.int 18)))) (.cons (.setI (.v 0) (.c (.int 2)) (.v 3))
    .nil) (.cons (.setI (.v 0) (.c (.int 3)) (.op .mod (.op .add (.op .add (.op .mul (.sub (.v 0) (.c (.int 3))) (.c (.int 69621))) (.op .mul (.op .mod (.v 3) (.c (.int 2147483629))) (.c (.int 48271)))) (.c (.int 5))) (.c (.int 2147483647))))
    .nil))
    .nil))) .nil)
  (.cons (.ite (.cmp .gt (.sub (.v 0) (.c (.int 2))) (.c (.int 0))) (.cons (.asg (.nm 4) (.op .mod (.sub (.v 0) (.c (.int 2))) (.v 1)))
    (.cons (.setI (.v 0) (.c (.int 2)) (.op .fdiv (.sub (.v 0) (.c (.int 2))) (.v 1)))
    (.cons (.ret (.v 4))
    .nil))) .nil)
  (.cons (.asg (.nm 2) (.sub (.v 0) (.c (.int 3))))
  (.cons (.setI (.v 0) (.c (.int 3)) (.op .mod (.op .add (.op .add (.op .mul (.v 2) (.c (.int 39373))) (.op .mul (.op .fdiv (.v 2) (.c (.int 127773))) (.c (.int 31)))) (.c (.int 1013904223))) (.c (.int 2147483647))))
  (.cons (.ret (.op .mod (.op .add (.op .fdiv (.sub (.v 0) (.c (.int 3))) (.c (.int 97))) (.op .mul (.op .mod (.sub (.v 0) (.c (.int 3))) (.c (.int 8191))) (.c (.int 53)))) (.v 1)))
  .nil)))))⟩
def f_law_of : LFun := ⟨["_law_bag_here", "_law_things"], ["_law_bag_here", "_law_things"], (.cons (.ret (.sub (.v 1) (.call "_law_pull" (.cons (.v 0) (.cons (.fn .len (.v 1)) .nil)))))
  .nil)⟩
def f_law_times : LFun := ⟨["_law_bag_here"], ["_law_bag_here"], (.cons (.ret (.call "_law_of" (.cons (.v 0) (.cons (.lst (.cons (.c (.int 1)) (.cons (.c (.int 1)) (.cons (.c (.int 2)) (.cons (.neg (.c (.int 1))) (.cons (.c (.int 3)) (.cons (.neg (.c (.int 2))) (.cons (.c (.int 0)) (.cons (.op .add (.c (.int 1)) (.call "_law_pull" (.cons (.v 0) (.cons (.c (.int 999)) .nil)))) (.cons (.op .sub (.op .sub (.c (.int 0)) (.c (.int 1))) (.call "_law_pull" (.cons (.v 0) (.cons (.c (.int 999)) .nil)))) .nil)))))))))) .nil))))
  .nil)⟩
def f_law_term : LFun := ⟨["_law_bag_here", "_law_names", "_law_near"], ["_law_bag_here", "_law_names", "_law_near", "_law_kind", "_law_much", "_law_name"], (.cons (.par [3, 4, 5] (.cons (.call "_law_pull" (.cons (.v 0) (.cons (.c (.int 12)) .nil))) (.cons (.call "_law_times" (.cons (.v 0) .nil)) (.cons (.call "_law_of" (.cons (.v 0) (.cons (.v 1) .nil))) .nil))))
  (.cons (.ite (.cmp .lt (.v 3) (.c (.int 3))) (.cons (.ret (.tup (.cons (.c (.str "one")) (.cons (.v 4) .nil))))
    .nil) .nil)
  (.cons (.ite (.cmp .lt (.v 3) (.c (.int 8))) (.cons (.ret (.tup (.cons (.c (.str "look")) (.cons (.v 4) (.cons (.v 5) (.cons (.call "_law_of" (.cons (.v 0) (.cons (.lst (.cons (.neg (.c (.int 1))) (.cons (.c (.int 0)) (.cons (.neg (.c (.int 1))) (.cons (.c (.int 1)) .nil))))) .nil))) .nil))))))
    .nil) .nil)
  (.cons (.ite (.cmp .eq (.v 3) (.c (.int 8))) (.cons (.ret (.tup (.cons (.c (.str "sum")) (.cons (.v 4) (.cons (.v 5) (.cons (.call "_law_of" (.cons (.v 0) (.cons (.lst (.cons (.c (.int 0)) (.cons (.c (.int 2)) .nil))) .nil))) (.cons (.call "_law_of" (.cons (.v 0) (.cons (.lst (.cons (.neg (.c (.int 1))) (.cons (.neg (.c (.int 1))) (.cons (.c (.int 0)) (.cons (.c (.int 1)) .nil))))) .nil))) .nil)))))))
    .nil) .nil)
  (.cons (.ite (.cmp .eq (.v 3) (.c (.int 9))) (.cons (.ret (.tup (.cons (.c (.str "total")) (.cons (.v 4) (.cons (.v 5) (.cons (.call "_law_of" (.cons (.v 0) (.cons (.lst (.cons (.c (.int 0)) (.cons (.c (.int 2)) .nil))) .nil))) (.cons (.op .sub (.call "_law_pull" (.cons (.v 0) (.cons (.v 2) .nil))) (.c (.int 1))) .nil)))))))
    .nil) .nil)
  (.cons (.ite (.and (.cmp .eq (.v 3) (.c (.int 10))) (.cmp .eq (.call "_law_pull" (.cons (.v 0) (.cons (.c (.int 6)) .nil))) (.c (.int 0)))) (.cons (.ret (.tup (.cons (.c (.str "gone")) (.cons (.v 4) .nil))))
    .nil) .nil)
  (.cons (.ret (.tup (.cons (.c (.str "at")) (.cons (.v 4) (.cons (.v 5) (.cons (.call "_law_pull" (.cons (.v 0) (.cons (.v 2) .nil))) .nil))))))
  .nil)))))))⟩
def f_law_formula : LFun := ⟨["_law_bag_here", "_law_names", "_law_near"], ["_law_bag_here", "_law_names", "_law_near", "_law_k"], (.cons (.ret (.fn .tuple (.lc [3] (.nm 3) (.rng1 (.call "_law_of" (.cons (.v 0) (.cons (.lst (.cons (.c (.int 1)) (.cons (.c (.int 2)) (.cons (.c (.int 1)) (.cons (.c (.int 3)) (.cons (.c (.int 0)) (.cons (.c (.int 2)) .nil))))))) .nil)))) .non (.call "_law_term" (.cons (.v 0) (.cons (.v 1) (.cons (.v 2) .nil)))))))
  .nil)⟩
def f_law_like : LFun := ⟨["_law_found", "_law_due"], ["_law_found", "_law_due", "_law_k"], (.cons (.ite (.e (.isi (.v 1) .dict)) (.cons (.ret (.and (.isi (.v 0) .dict) (.call "_law_like" (.cons (.fn .list .bad) (.cons (.fn .list .bad) .nil)))))
    .nil) .nil)
  (.cons (.ite (.or (.cmp .ne (.isi (.v 1) .tuple) (.isi (.v 0) .tuple)) (.cmp .ne (.isi (.v 1) .list) (.isi (.v 0) .list))) (.cons (.ret (.c (.bl false)))
    .nil) .nil)
  (.cons (.ite (.not (.e (.isiT (.v 1) [.tuple, .list]))) (.cons (.ret (.and (.cmp .eq (.isi (.v 0) .bool) (.isi (.v 1) .bool)) (.cmp .eq (.v 0) (.v 1))))
    .nil) .nil)
  (.cons (.ret (.and (.cmp .eq (.fn .len (.v 0)) (.fn .len (.v 1))) (.fn .all (.lc [2] (.nm 2) (.rng1 (.fn .len (.v 1))) .non (.call "_law_like" (.cons (.sub (.v 0) (.v 2)) (.cons (.sub (.v 1) (.v 2)) .nil)))))))
  .nil))))⟩
def f_is_number : LFun := ⟨["thing", "low", "high"], ["thing", "low", "high"], (.cons (.ret (.and (.isi (.v 0) .int) (.and (.not (.isi (.v 0) .bool)) (.chn .le .le (.v 1) (.v 0) (.v 2)))))
  .nil)⟩
def f_is_term : LFun := ⟨["term", "columns"], ["term", "columns", "word", "much", "name", "more", "rows"], (.cons (.ite (.or (.not (.e (.isi (.v 0) .tuple))) (.or (.cmp .lt (.fn .len (.v 0)) (.c (.int 2))) (.not (.e (.isi (.sub (.v 0) (.c (.int 0))) .str))))) (.cons (.ret (.c (.bl false)))
    .nil) .nil)
  (.cons (.asg (.st [2, 3] 5) (.v 0))
  (.cons (.ite (.or (.cmp .notin (.v 2) (.g "COUNTS")) (.or (.cmp .ne (.sub (.g "COUNTS") (.v 2)) (.fn .len (.v 0))) (.not (.e (.call "is_number" (.cons (.v 3) (.cons (.neg (.g "MOST_TIMES")) (.cons (.g "MOST_TIMES") .nil)))))))) (.cons (.ret (.c (.bl false)))
    .nil) .nil)
  (.cons (.ite (.cmp .isin (.v 2) (.tup (.cons (.c (.str "one")) (.cons (.c (.str "gone")) .nil)))) (.cons (.ret (.c (.bl true)))
    .nil) .nil)
  (.cons (.asg (.st [4] 6) (.v 5))
  (.cons (.ite (.cmp .notin (.v 4) (.v 1)) (.cons (.ret (.c (.bl false)))
    .nil) .nil)
  (.cons (.ite (.cmp .eq (.v 2) (.c (.str "look"))) (.cons (.ret (.call "is_number" (.cons (.sub (.v 6) (.c (.int 0))) (.cons (.neg (.c (.int 1))) (.cons (.c (.int 1)) .nil)))))
    .nil) .nil)
  (.cons (.ite (.not (.e (.call "is_number" (.cons (.sub (.v 6) (.c (.int 0))) (.cons (.c (.int 0)) (.cons (.g "MOST_ROW") .nil)))))) (.cons (.ret (.c (.bl false)))
    .nil) .nil)
  (.cons (.ret (.or (.cmp .eq (.v 2) (.c (.str "at"))) (.call "is_number" (.cons (.sub (.v 6) (.c (.int 1))) (.cons (.neg (.c (.int 1))) (.cons (.ite (.cmp .eq (.v 2) (.c (.str "sum"))) (.c (.int 1)) (.g "MOST_ROW")) .nil))))))
  .nil)))))))))⟩
def f_need_formula : LFun := ⟨["formula", "columns"], ["formula", "columns", "term"], (.cons (.ite (.or (.not (.e (.isi (.v 0) .tuple))) (.cmp .gt (.fn .len (.v 0)) (.g "MOST_TERMS"))) (.cons (.rse "BadFormula" .nil)
    .nil) .nil)
  (.cons (.ite (.not (.e (.fn .all (.lc [2] (.nm 2) (.seq (.v 0)) .non (.call "is_term" (.cons (.v 2) (.cons (.v 1) .nil))))))) (.cons (.rse "BadFormula" .nil)
    .nil) .nil)
  (.cons (.ret (.v 0))
  .nil)))⟩
structure EPull (N : Cn) (T : Str → Option LFun) : Prop where
  pullT : T "_law_pull" = some f_law_pull
  pullH : N.has "_law_pull" = true
structure EOf (N : Cn) (T : Str → Option LFun) : Prop extends EPull N T where
  ofT : T "_law_of" = some f_law_of
  ofH : N.has "_law_of" = true
structure ETerm (N : Cn) (T : Str → Option LFun) : Prop extends EOf N T where
  timesT : T "_law_times" = some f_law_times
  timesH : N.has "_law_times" = true
  termT : T "_law_term" = some f_law_term
  termH : N.has "_law_term" = true
structure EForm (N : Cn) (T : Str → Option LFun) : Prop extends ETerm N T where
  formT : T "_law_formula" = some f_law_formula
  formH : N.has "_law_formula" = true
structure ENum (N : Cn) (T : Str → Option LFun) : Prop where
  numT : T "is_number" = some f_is_number
  numH : N.has "is_number" = true
structure EIsT (N : Cn) (T : Str → Option LFun) : Prop extends ENum N T where
  istT : T "is_term" = some f_is_term
  istH : N.has "is_term" = true
  gRow : N.g "MOST_ROW" = some (.int 1000000000000000)
  gTimes : N.g "MOST_TIMES" = some (.int 999)
  gCounts : N.g "COUNTS" = some (.kdt [.inr "one", .inr "look", .inr "at", .inr "sum", .inr "total", .inr "gone"] [.int 2, .int 4, .int 4, .int 5, .int 5, .int 2])
structure ENeed (N : Cn) (T : Str → Option LFun) : Prop extends EIsT N T where
  needT : T "need_formula" = some f_need_formula
  needH : N.has "need_formula" = true
  gTerms : N.g "MOST_TERMS" = some (.int 5)
  xmB : N.xm "BadFormula" [] = some [(("word" : Str), U.str "badformula")]
structure ELike (N : Cn) (T : Str → Option LFun) : Prop where
  likeT : T "_law_like" = some f_law_like
  likeH : N.has "_law_like" = true
section
variable {N : Cn} {T : Str → Option LFun}
theorem mod_nn (a b : Int) (hb : 0 < b) : 0 ≤ a % b ∧ a % b < b := ⟨Int.emod_nonneg _ (by omega), Int.emod_lt_of_pos _ hb⟩
def tailS : LSs → LSs
  | .cons _ ss => ss
  | .nil => .nil
def headS : LSs → LS
  | .cons s _ => s
  | .nil => .brk
theorem call_eq {k : Nat} (hk : 1 ≤ k) {f : Str} {F : LFun} {us : List U} {S : Sto} (hF : T f = some F) (hl : us.length = F.params.length) : callN N T k f us S = endU (evSs N (callN N T (k - 1)) F.body (startU F.names.length us) S) := by
  obtain ⟨n, rfl⟩ : ∃ n, k = n + 1 := ⟨k - 1, by omega⟩
  rw [callN_eq hF, if_pos hl]
  rfl
theorem pull2 {cf : CF} {R : Sto} {m : Int} (h1 : 0 < m) (h2 : m < 18446744073709551616) (cells : List Int) (i c s : Int) (x y z : SL) (hi : 0 ≤ i) (hc : 0 ≤ c) (hs : 0 ≤ s) :
    ∃ r o', endU (evSs N cf (tailS f_law_pull.body) [.val (.ref 0), .val (.int m), x, y, z] (bagL cells i c s :: R)) = .ok (.int r) (o' :: R) ∧ 0 ≤ r ∧ r < m ∧ Bg o' := by
  by_cases c1 : 0 < c
  · refine ⟨c % m, bagL cells i (c / m) s, ?_, (mod_nn c m h1).1, (mod_nn c m h1).2, cells, i, c / m, s, rfl, hi, Int.ediv_nonneg hc (by omega), hs⟩
    simp [f_law_pull, tailS, bag2, bagS2, c1, bop_mod_int _ _ _ h1, bop_fdiv_int _ _ _ h1 h2, endU]
  · let s' : Int := (s * 39373 + s / 127773 * 31 + 1013904223) % 2147483647
    refine ⟨(s' / 97 + s' % 8191 * 53) % m, bagL cells i c s', ?_, (mod_nn _ m h1).1, (mod_nn _ m h1).2, cells, i, c, s', rfl, hi, hc, (mod_nn _ _ (by decide)).1⟩
    simp [f_law_pull, tailS, bag2, bag3, bagS3, c1, bop_mod_int, bop_fdiv_int, bop_mul_int, h1, endU, s']
theorem pull_ok (E : EPull N T) {k : Nat} (hk : 1 ≤ k) {o : SO} {R : Sto} (h : Bg o) {m : Int} (h1 : 0 < m) (h2 : m < 18446744073709551616) : ∃ r o', callN N T k "_law_pull" [.ref 0, .int m] (o :: R) = .ok (.int r) (o' :: R) ∧ 0 ≤ r ∧ r < m ∧ Bg o' := by
  obtain ⟨cells, i, c, s, rfl, hi, hc, hs⟩ := h
  rw [call_eq hk E.pullT rfl]
  show ∃ r o', endU ((evS N (callN N T (k - 1)) (headS f_law_pull.body) [.val (.ref 0), .val (.int m), .no, .no, .no] (bagL cells i c s :: R)).seq fun σ1 S1 => evSs N (callN N T (k - 1)) (tailS f_law_pull.body) σ1 S1) = _ ∧ _
  by_cases c1 : c = 0 ∧ i < cells.length
  · obtain ⟨x, hx⟩ := item_ints cells i hi c1.2
    by_cases c2 : 1000000000000000000 ≤ x
    · have e : evS N (callN N T (k - 1)) (headS f_law_pull.body) [.val (.ref 0), .val (.int m), .no, .no, .no] (bagL cells i c s :: R) = .nx [.val (.ref 0), .val (.int m), .no, .val (.int x), .no] (bagL cells (i + 1) x s :: R) := by
        simp [f_law_pull, headS, bag0, bag1, bag2, bag3, bagS1, bagS2, bagS3, c1, c2, hx, len_lst, bop_mod_int, bop_mul_int, bop_pow_int]
      rw [e]
      exact pull2 h1 h2 cells _ _ _ _ _ _ (by omega) (by omega) hs
    · have e : ∃ s', 0 ≤ s' ∧ evS N (callN N T (k - 1)) (headS f_law_pull.body) [.val (.ref 0), .val (.int m), .no, .no, .no] (bagL cells i c s :: R) = .nx [.val (.ref 0), .val (.int m), .no, .val (.int x), .no] (bagL cells (i + 1) c s' :: R) := by
        refine ⟨(s * 69621 + x % 2147483629 * 48271 + 5) % 2147483647, (mod_nn _ 2147483647 (by decide)).1, ?_⟩
        simp [f_law_pull, headS, bag0, bag1, bag2, bag3, bagS1, bagS2, bagS3, c1, c2, hx, len_lst, bop_mod_int, bop_mul_int, bop_pow_int]
      obtain ⟨s', hs', e⟩ := e
      rw [e]
      exact pull2 h1 h2 cells _ _ _ _ _ _ (by omega) hc hs'
  · have e : evS N (callN N T (k - 1)) (headS f_law_pull.body) [.val (.ref 0), .val (.int m), .no, .no, .no] (bagL cells i c s :: R) = .nx [.val (.ref 0), .val (.int m), .no, .no, .no] (bagL cells i c s :: R) := by
      by_cases c2 : c = 0
      · have c3 : ¬ i < cells.length := fun z => c1 ⟨c2, z⟩
        simp [f_law_pull, headS, bag0, bag1, bag2, bag3, c2, c3, len_lst]
      · simp [f_law_pull, headS, bag0, bag1, bag2, bag3, c2, len_lst]
    rw [e]
    exact pull2 h1 h2 cells _ _ _ _ _ _ hi hc hs
/-- what is drawn from a list -/
theorem of_ok (E : EOf N T) {k : Nat} (hk : 2 ≤ k) {o : SO} {R : Sto} (h : Bg o) {us : List U} (h1 : us ≠ []) (h2 : us.length < 100000) : ∃ u o', callN N T k "_law_of" [.ref 0, .lst us] (o :: R) = .ok u (o' :: R) ∧ u ∈ us ∧ Bg o' := by
  have hp : 0 < us.length := List.length_pos_iff.mpr h1
  obtain ⟨r, o', e, r0, r1, b⟩ := pull_ok E.toEPull (k := k - 1) (by omega) (R := R) h (m := us.length) (by omega) (by omega)
  have h3 : r.toNat < us.length := by omega
  refine ⟨us[r.toNat], o', ?_, List.getElem_mem _, b⟩
  rw [call_eq (by omega) E.ofT rfl]
  have hi : ∀ S, item S (.lst us) (.int r) = some us[r.toNat] := fun S => by
    rw [item_lst, atI_nn _ _ r0 (by omega), List.getElem?_eq_getElem h3]
  simp [f_law_of, startU, E.pullH, e, len_lst, hi, endU]
/-- a start of the bag -/
theorem bag_ok {k : Nat} (hk : 1 ≤ k) (hT : T "_law_bag" = some f_law_bag) (ns : List Int) (hl : ns.length ≤ 63) : ∃ o, callN N T k "_law_bag" [.fz (ns.map U.int)] [] = .ok (.ref 0) [o] ∧ Bg o := by
  rw [call_eq hk hT rfl]
  have hc : cutL (ns.map U.int) none (some 63) = ns.map U.int := by
    have e1 : HT.sIx (ns.map U.int).length 0 none = 0 := rfl
    have e2 : (ns.map U.int).length ≤ HT.sIx (ns.map U.int).length (ns.map U.int).length (some 63) := by
      unfold HT.sIx
      simp
      omega
    unfold cutL
    rw [e1, List.drop_zero, Nat.sub_zero, List.take_of_length_le e2]
  have hcut : ∀ S, cut S (.fz (ns.map U.int)) none (some 63) = some (.newL (ns.map U.int)) := fun S => by
    show some (PR.newL (cutL (ns.map U.int) none (some 63))) = _
    rw [hc]
  obtain ⟨σ', S', e, s, y, hs, rfl, rfl⟩ := for_inv (turn := turnOf N (callN N T (k - 1)) (.nm 2) (.cons (.asg (.nm 1) (.op .mod (.op .add (.op .add (.op .mul (.v 1) (.c (.int 48271))) (.op .mod (.v 2) (.c (.int 2147483629)))) (.c (.int 11))) (.c (.int 2147483647)))) .nil))
    (fun σ S => ∃ s y, 0 ≤ s ∧ σ = [.val (.fz (ns.map U.int)), .val (.int s), y] ∧ S = []) (ns.map U.int) [.val (.fz (ns.map U.int)), .val (.int 9145), .no] [] (fun u hu σ S h => by
    obtain ⟨s, y, hs, rfl, rfl⟩ := h
    obtain ⟨x, hx, rfl⟩ := List.mem_map.mp hu
    refine ⟨_, _, ?_, (s * 48271 + x % 2147483629 + 11) % 2147483647, .val (.int x), (mod_nn _ _ (by decide)).1, rfl, rfl⟩
    simp [turnOf, bop_mod_int, bop_mul_int]) ⟨9145, .no, by decide, rfl, rfl⟩
  refine ⟨bagL ns 0 0 s, ?_, ns, 0, 0, s, rfl, by decide, by decide, hs⟩
  simp [f_law_bag, startU, hcut, e]
  simp [fnc, U.items, endU, bagL, big]
/-! ### terms -/
/-- a whole number, or a text that == tells -/
def flatU : U → Bool
  | .int _ => true
  | .str s => SeqAt.shaped (.str s)
  | _ => false
@[simp] theorem flat_int (i : Int) : flatU (.int i) = true := rfl
@[simp] theorem flat_one : flatU (.str "one") = true := by kernel_rfl
@[simp] theorem flat_look : flatU (.str "look") = true := by kernel_rfl
@[simp] theorem flat_at : flatU (.str "at") = true := by kernel_rfl
@[simp] theorem flat_sum : flatU (.str "sum") = true := by kernel_rfl
@[simp] theorem flat_total : flatU (.str "total") = true := by kernel_rfl
@[simp] theorem flat_gone : flatU (.str "gone") = true := by kernel_rfl
theorem times_ok (E : ETerm N T) {k : Nat} (hk : 3 ≤ k) {o : SO} {R : Sto} (h : Bg o) : ∃ t o', callN N T k "_law_times" [.ref 0] (o :: R) = .ok (.int t) (o' :: R) ∧ Bg o' := by
  obtain ⟨r1, o1, e1, _, _, b1⟩ := pull_ok E.toEPull (k := k - 1) (by omega) (R := R) h (m := 999) (by omega) (by omega)
  obtain ⟨r2, o2, e2, _, _, b2⟩ := pull_ok E.toEPull (k := k - 1) (by omega) (R := R) b1 (m := 999) (by omega) (by omega)
  obtain ⟨u, o3, e3, m3, b3⟩ := of_ok E.toEOf (k := k - 1) (by omega) (R := R) b2 (us := [.int 1, .int 1, .int 2, .int (-1), .int 3, .int (-2), .int 0, .int (1 + r1), .int (0 - 1 - r2)]) (by simp) (by simp)
  have hu : ∃ t, u = .int t := by
    simp only [List.mem_cons, List.not_mem_nil, or_false] at m3
    rcases m3 with h | h | h | h | h | h | h | h | h <;> exact ⟨_, h⟩
  obtain ⟨t, rfl⟩ := hu
  refine ⟨t, o3, ?_, b3⟩
  rw [call_eq (by omega) E.timesT rfl]
  simp at e3
  simp [f_law_times, startU, E.pullH, E.ofH, e1, e2, e3, endU, big]
theorem term_ok (E : ETerm N T) {k : Nat} (hk : 4 ≤ k) {o : SO} {R : Sto} (h : Bg o) {us : List U} (h1 : us ≠ []) (h2 : us.length < 100000) (h3 : ∀ u ∈ us, flatU u = true) {near : Int} (h4 : 0 < near) (h5 : near < 18446744073709551616) :
    ∃ ws o', callN N T k "_law_term" [.ref 0, .lst us, .int near] (o :: R) = .ok (.tup ws) (o' :: R) ∧ (∀ w ∈ ws, flatU w = true) ∧ ws.length ≤ 5 ∧ Bg o' := by
  obtain ⟨kd, o1, e1, _, _, b1⟩ := pull_ok E.toEPull (k := k - 1) (by omega) (R := R) h (m := 12) (by omega) (by omega)
  obtain ⟨t, o2, e2, b2⟩ := times_ok E (k := k - 1) (by omega) (R := R) b1
  obtain ⟨nm, o3, e3, m3, b3⟩ := of_ok E.toEOf (k := k - 1) (by omega) (R := R) b2 h1 h2
  have fn := h3 nm m3
  rw [call_eq (by omega) E.termT rfl]
  by_cases c1 : kd < 3
  · refine ⟨[.str "one", .int t], o3, ?_, by simp, by simp, b3⟩
    simp [f_law_term, startU, E.pullH, E.ofH, E.timesH, e1, e2, e3, endU, big, setVals, c1]
  by_cases c2 : kd < 8
  · obtain ⟨u, o4, e4, m4, b4⟩ := of_ok E.toEOf (k := k - 1) (by omega) (R := R) b3 (us := [.int (-1), .int 0, .int (-1), .int 1]) (by simp) (by simp)
    refine ⟨[.str "look", .int t, nm, u], o4, ?_, ?_, by simp, b4⟩
    · simp [f_law_term, startU, E.pullH, E.ofH, E.timesH, e1, e2, e3, e4, endU, big, setVals, c1, c2]
    · have f4 : ∀ w ∈ [U.int (-1), .int 0, .int (-1), .int 1], flatU w = true := by simp
      simp [f4 u m4, fn]
  by_cases c3 : kd = 8
  · obtain ⟨u, o4, e4, m4, b4⟩ := of_ok E.toEOf (k := k - 1) (by omega) (R := R) b3 (us := [.int 0, .int 2]) (by simp) (by simp)
    obtain ⟨v, o5, e5, m5, b5⟩ := of_ok E.toEOf (k := k - 1) (by omega) (R := R) b4 (us := [.int (-1), .int (-1), .int 0, .int 1]) (by simp) (by simp)
    refine ⟨[.str "sum", .int t, nm, u, v], o5, ?_, ?_, by simp, b5⟩
    · simp [f_law_term, startU, E.pullH, E.ofH, E.timesH, e1, e2, e3, e4, e5, endU, big, setVals, c3]
    · have f4 : ∀ w ∈ [U.int 0, .int 2], flatU w = true := by simp
      have f5 : ∀ w ∈ [U.int (-1), .int (-1), .int 0, .int 1], flatU w = true := by simp
      simp [f4 u m4, f5 v m5, fn]
  by_cases c4 : kd = 9
  · obtain ⟨u, o4, e4, m4, b4⟩ := of_ok E.toEOf (k := k - 1) (by omega) (R := R) b3 (us := [.int 0, .int 2]) (by simp) (by simp)
    obtain ⟨v, o5, e5, _, _, b5⟩ := pull_ok E.toEPull (k := k - 1) (by omega) (R := R) b4 h4 h5
    refine ⟨[.str "total", .int t, nm, u, .int (v - 1)], o5, ?_, ?_, by simp, b5⟩
    · simp [f_law_term, startU, E.pullH, E.ofH, E.timesH, e1, e2, e3, e4, e5, endU, big, setVals, c4]
    · have f4 : ∀ w ∈ [U.int 0, .int 2], flatU w = true := by simp
      simp [f4 u m4, fn]
  by_cases c5 : kd = 10
  · obtain ⟨x, o4, e4, _, _, b4⟩ := pull_ok E.toEPull (k := k - 1) (by omega) (R := R) b3 (m := 6) (by omega) (by omega)
    by_cases c6 : x = 0
    · refine ⟨[.str "gone", .int t], o4, ?_, by simp, by simp, b4⟩
      simp [f_law_term, startU, E.pullH, E.ofH, E.timesH, e1, e2, e3, e4, endU, big, setVals, c5, c6]
    · obtain ⟨v, o5, e5, _, _, b5⟩ := pull_ok E.toEPull (k := k - 1) (by omega) (R := R) b4 h4 h5
      refine ⟨[.str "at", .int t, nm, .int v], o5, ?_, by simp [fn], by simp, b5⟩
      simp [f_law_term, startU, E.pullH, E.ofH, E.timesH, e1, e2, e3, e4, e5, endU, big, setVals, c5, c6]
  · obtain ⟨v, o5, e5, _, _, b5⟩ := pull_ok E.toEPull (k := k - 1) (by omega) (R := R) b3 h4 h5
    refine ⟨[.str "at", .int t, nm, .int v], o5, ?_, by simp [fn], by simp, b5⟩
    simp [f_law_term, startU, E.pullH, E.ofH, E.timesH, e1, e2, e3, e5, endU, big, setVals, c1, c2, c3, c4, c5]
end
end Far.L

set_option Elab.async false
set_option linter.all false
set_option maxRecDepth 100000
set_option maxHeartbeats 4000000
/-! Formulas: drawn ones, looked at ones. -/
namespace Far.L
open PySem PySem.Spec PyProof.Rows L2
theorem eq_look_look (S : Sto) : cop .eq S (.str "look") (.str "look") = some true := by kernel_rfl
theorem eq_look_at (S : Sto) : cop .eq S (.str "look") (.str "at") = some false := by kernel_rfl
theorem eq_look_sum (S : Sto) : cop .eq S (.str "look") (.str "sum") = some false := by kernel_rfl
theorem eq_at_look (S : Sto) : cop .eq S (.str "at") (.str "look") = some false := by kernel_rfl
theorem eq_at_at (S : Sto) : cop .eq S (.str "at") (.str "at") = some true := by kernel_rfl
theorem eq_at_sum (S : Sto) : cop .eq S (.str "at") (.str "sum") = some false := by kernel_rfl
theorem eq_sum_look (S : Sto) : cop .eq S (.str "sum") (.str "look") = some false := by kernel_rfl
theorem eq_sum_at (S : Sto) : cop .eq S (.str "sum") (.str "at") = some false := by kernel_rfl
theorem eq_sum_sum (S : Sto) : cop .eq S (.str "sum") (.str "sum") = some true := by kernel_rfl
theorem eq_total_look (S : Sto) : cop .eq S (.str "total") (.str "look") = some false := by kernel_rfl
theorem eq_total_at (S : Sto) : cop .eq S (.str "total") (.str "at") = some false := by kernel_rfl
theorem eq_total_sum (S : Sto) : cop .eq S (.str "total") (.str "sum") = some false := by kernel_rfl
/-- a whole number between -/
def numB : U → Int → Int → Bool
  | .int i, lo, hi => decide (lo ≤ i) && decide (i ≤ hi)
  | _, _, _ => false
section
variable {N : Cn} {T : Str → Option LFun}
theorem num_ok (E : ENum N T) {k : Nat} (hk : 1 ≤ k) {u : U} (hu : flatU u = true) (lo hi : Int) (S : Sto) : callN N T k "is_number" [u, .int lo, .int hi] S = .ok (.bl (numB u lo hi)) S := by
  rw [call_eq hk E.numT rfl]
  cases u with
  | int i =>
    by_cases c1 : lo ≤ i
    · simp [f_is_number, startU, tyIs, truth, c1, numB, endU]
    · simp [f_is_number, startU, tyIs, truth, c1, numB, endU]
  | str x => simp [f_is_number, startU, tyIs, numB, endU]
  | _ => cases hu
def memB (u : U) (names : List U) : Bool := (inFlat u names).getD false
theorem flatV_of {u : U} (h : flatU u = true) : ∃ v, flatV? u = some v := by
  cases u <;> first | exact ⟨_, rfl⟩ | cases h
theorem mapM_of : ∀ {us : List U}, (∀ u ∈ us, flatU u = true) → ∃ vs, us.mapM flatV? = some vs
  | [], _ => ⟨[], rfl⟩
  | u :: us, h => by
    obtain ⟨v, hv⟩ := flatV_of (h u (by simp))
    obtain ⟨vs, hvs⟩ := mapM_of (us := us) fun w hw => h w (by simp [hw])
    exact ⟨v :: vs, by rw [List.mapM_cons, hv, hvs]; rfl⟩
theorem mem_some {u : U} {names : List U} (h : flatU u = true) (hn : ∀ w ∈ names, flatU w = true) : inFlat u names = some (memB u names) := by
  obtain ⟨v, hv⟩ := flatV_of h
  obtain ⟨vs, hvs⟩ := mapM_of hn
  unfold memB inFlat
  rw [hv, hvs]
  rfl
/-- a list or a tuple of names -/
def isSeq (c : U) (names : List U) : Prop := c = .lst names ∨ c = .tup names
theorem notin_seq {u c : U} {names : List U} (hc : isSeq c names) (h : flatU u = true) (hn : ∀ w ∈ names, flatU w = true) (S : Sto) : cop .notin S u c = some (!memB u names) := by
  rcases hc with rfl | rfl
  · show (inFlat u names).map (!·) = _
    rw [mem_some h hn]; rfl
  · show (inFlat u names).map (!·) = _
    rw [mem_some h hn]; rfl
def cKeys : List Key := [.inr "one", .inr "look", .inr "at", .inr "sum", .inr "total", .inr "gone"]
def cVals : List U := [.int 2, .int 4, .int 4, .int 5, .int 5, .int 2]
theorem c_one : dctGet cKeys cVals (.inr "one") = some (.int 2) := by kernel_rfl
theorem c_look : dctGet cKeys cVals (.inr "look") = some (.int 4) := by kernel_rfl
theorem c_at : dctGet cKeys cVals (.inr "at") = some (.int 4) := by kernel_rfl
theorem c_sum : dctGet cKeys cVals (.inr "sum") = some (.int 5) := by kernel_rfl
theorem c_total : dctGet cKeys cVals (.inr "total") = some (.int 5) := by kernel_rfl
theorem c_gone : dctGet cKeys cVals (.inr "gone") = some (.int 2) := by kernel_rfl
theorem c_none {w : Str} (h1 : w ≠ "one") (h2 : w ≠ "look") (h3 : w ≠ "at") (h4 : w ≠ "sum") (h5 : w ≠ "total") (h6 : w ≠ "gone") : dctGet cKeys cVals (.inr w) = none := by
  simp [cKeys, cVals, dctGet, Ne.symm h1, Ne.symm h2, Ne.symm h3, Ne.symm h4, Ne.symm h5, Ne.symm h6]
theorem kdt_notin (S : Sto) (w : Str) : cop .notin S (.str w) (.kdt cKeys cVals) = some (!(dctGet cKeys cVals (.inr w)).isSome) := rfl
theorem kdt_item (S : Sto) (w : Str) : item S (.kdt cKeys cVals) (.str w) = dctGet cKeys cVals (.inr w) := rfl
theorem EIsT.gc (E : EIsT N T) : N.g "COUNTS" = some (.kdt cKeys cVals) := E.gCounts
theorem it_one (S : Sto) : cop .isin S (.str "one") (.tup [.str "one", .str "gone"]) = some true := by kernel_rfl
theorem it_gone (S : Sto) : cop .isin S (.str "gone") (.tup [.str "one", .str "gone"]) = some true := by kernel_rfl
theorem it_look (S : Sto) : cop .isin S (.str "look") (.tup [.str "one", .str "gone"]) = some false := by kernel_rfl
theorem it_at (S : Sto) : cop .isin S (.str "at") (.tup [.str "one", .str "gone"]) = some false := by kernel_rfl
theorem it_sum (S : Sto) : cop .isin S (.str "sum") (.tup [.str "one", .str "gone"]) = some false := by kernel_rfl
theorem it_total (S : Sto) : cop .isin S (.str "total") (.tup [.str "one", .str "gone"]) = some false := by kernel_rfl
theorem ne1 : ¬ ("at" : Str) = "look" := by decide
theorem ne2 : ¬ ("sum" : Str) = "look" := by decide
theorem ne3 : ¬ ("sum" : Str) = "at" := by decide
theorem ne4 : ¬ ("total" : Str) = "look" := by decide
theorem ne5 : ¬ ("total" : Str) = "at" := by decide
theorem ne6 : ¬ ("total" : Str) = "sum" := by decide
/-- a good term -/
def goodB (names : List U) : List U → Bool
  | [.str w, a] => decide (w = "one" ∨ w = "gone") && numB a (-999) 999
  | [.str w, a, nm, r] => numB a (-999) 999 && (memB nm names && ((decide (w = "look") && numB r (-1) 1) || (decide (w = "at") && numB r 0 1000000000000000)))
  | [.str w, a, nm, r, s] => numB a (-999) 999 && (memB nm names && (numB r 0 1000000000000000 && ((decide (w = "sum") && numB s (-1) 1) || (decide (w = "total") && numB s (-1) 1000000000000000))))
  | _ => false
section
variable (E : EIsT N T) {k : Nat} (hk : 2 ≤ k) {c : U} {names : List U} (hc : isSeq c names) (hn : ∀ w ∈ names, flatU w = true) (S : Sto)
include E hk
theorem ist_short {ws : List U} (hl : ws.length < 2) : callN N T k "is_term" [.tup ws, c] S = .ok (.bl false) S := by
  rw [call_eq (by omega) E.istT rfl]
  have h2 : (ws.length : Int) < 2 := by omega
  simp [f_is_term, startU, tyIs, truth, len_tup, h2, endU]
theorem ist_int {i : Int} {ws : List U} : callN N T k "is_term" [.tup (.int i :: ws), c] S = .ok (.bl false) S := by
  rw [call_eq (by omega) E.istT rfl]
  by_cases h2 : ((ws.length : Int) + 1) < 2
  · simp [f_is_term, startU, tyIs, truth, len_tup, h2, endU]
  · have e : item S (.tup (.int i :: ws)) (.int 0) = some (.int i) := item_tup0 _ _ _
    simp [f_is_term, startU, tyIs, truth, len_tup, h2, endU, e]
theorem ist_none {w : Str} {a : U} {ws : List U} (hd : dctGet cKeys cVals (.inr w) = none) : callN N T k "is_term" [.tup (.str w :: a :: ws), c] S = .ok (.bl false) S := by
  rw [call_eq (by omega) E.istT rfl]
  have h2 : ¬ ((ws.length : Int) + 1 + 1) < 2 := by omega
  have e : item S (.tup (.str w :: a :: ws)) (.int 0) = some (.str w) := item_tup0 _ _ _
  simp [f_is_term, startU, tyIs, truth, len_tup, h2, endU, e, E.gc, kdt_notin, hd]
theorem ist_len {w : Str} {a : U} {ws : List U} {m : Int} (hd : dctGet cKeys cVals (.inr w) = some (.int m)) (hm : m ≠ (ws.length : Int) + 1 + 1) : callN N T k "is_term" [.tup (.str w :: a :: ws), c] S = .ok (.bl false) S := by
  rw [call_eq (by omega) E.istT rfl]
  have h2 : ¬ ((ws.length : Int) + 1 + 1) < 2 := by omega
  have e : item S (.tup (.str w :: a :: ws)) (.int 0) = some (.str w) := item_tup0 _ _ _
  simp [f_is_term, startU, tyIs, truth, len_tup, h2, endU, e, E.gc, kdt_notin, kdt_item, hd, hm]
theorem ist_two {w : Str} {a : U} (ha : flatU a = true) (hw : w = "one" ∨ w = "gone") : callN N T k "is_term" [.tup [.str w, a], c] S = .ok (.bl (numB a (-999) 999)) S := by
  rw [call_eq (by omega) E.istT rfl]
  have en := num_ok E.toENum (k := k - 1) (by omega) ha (-999) 999 S
  have e : item S (.tup [.str w, a]) (.int 0) = some (.str w) := item_tup0 _ _ _
  have hd : dctGet cKeys cVals (.inr w) = some (.int 2) := by
    rcases hw with rfl | rfl
    · exact c_one
    · exact c_gone
  have hi : cop .isin S (.str w) (.tup [.str "one", .str "gone"]) = some true := by
    rcases hw with rfl | rfl
    · exact it_one S
    · exact it_gone S
  cases hb : numB a (-999) 999 with
  | true => simp [f_is_term, startU, tyIs, truth, len_tup, endU, e, E.gc, kdt_notin, kdt_item, hd, E.gTimes, E.numH, en, hb, hi, big]
  | false => simp [f_is_term, startU, tyIs, truth, len_tup, endU, e, E.gc, kdt_notin, kdt_item, hd, E.gTimes, E.numH, en, hb, hi, big]
include hc hn
theorem ist_look {a nm r : U} (ha : flatU a = true) (hnm : flatU nm = true) (hr : flatU r = true) : callN N T k "is_term" [.tup [.str "look", a, nm, r], c] S = .ok (.bl (goodB names [.str "look", a, nm, r])) S := by
  rw [call_eq (by omega) E.istT rfl]
  have en := num_ok E.toENum (k := k - 1) (by omega) ha (-999) 999 S
  have er := num_ok E.toENum (k := k - 1) (by omega) hr (-1) 1 S
  have e : item S (.tup [.str "look", a, nm, r]) (.int 0) = some (.str "look") := rfl
  have e2 : item S (.lst [r]) (.int 0) = some r := rfl
  have em := notin_seq hc hnm hn S
  cases hb : numB a (-999) 999 <;> cases hm : memB nm names <;> simp [f_is_term, startU, tyIs, truth, len_tup, endU, e, e2, E.gc, kdt_notin, kdt_item, c_look, E.gTimes, E.numH, en, er, em, hm, hb, it_look, eq_look_look, big, goodB, Ne.symm ne1]
end
end
end Far.L

set_option Elab.async false
set_option linter.all false
set_option maxRecDepth 100000
set_option maxHeartbeats 4000000
namespace Far.L
open PySem PySem.Spec PyProof.Rows L2
section
variable {N : Cn} {T : Str → Option LFun}
section
variable (E : EIsT N T) {k : Nat} (hk : 2 ≤ k) {c : U} {names : List U} (hc : isSeq c names) (hn : ∀ w ∈ names, flatU w = true) (S : Sto)
include E hk hc hn
theorem ist_at {a nm r : U} (ha : flatU a = true) (hnm : flatU nm = true) (hr : flatU r = true) : callN N T k "is_term" [.tup [.str "at", a, nm, r], c] S = .ok (.bl (goodB names [.str "at", a, nm, r])) S := by
  rw [call_eq (by omega) E.istT rfl]
  have en := num_ok E.toENum (k := k - 1) (by omega) ha (-999) 999 S
  have er := num_ok E.toENum (k := k - 1) (by omega) hr 0 1000000000000000 S
  have e : item S (.tup [.str "at", a, nm, r]) (.int 0) = some (.str "at") := rfl
  have e2 : item S (.lst [r]) (.int 0) = some r := rfl
  have em := notin_seq hc hnm hn S
  cases hb : numB a (-999) 999 <;> cases hm : memB nm names <;> cases hd : numB r 0 1000000000000000 <;> simp [f_is_term, startU, tyIs, truth, len_tup, endU, e, e2, E.gc, kdt_notin, kdt_item, c_at, E.gTimes, E.gRow, E.numH, en, er, em, hm, hb, hd, it_at, eq_at_look, eq_at_at, big, goodB, ne1]
theorem ist_sum {a nm r s : U} (ha : flatU a = true) (hnm : flatU nm = true) (hr : flatU r = true) (hs : flatU s = true) : callN N T k "is_term" [.tup [.str "sum", a, nm, r, s], c] S = .ok (.bl (goodB names [.str "sum", a, nm, r, s])) S := by
  rw [call_eq (by omega) E.istT rfl]
  have en := num_ok E.toENum (k := k - 1) (by omega) ha (-999) 999 S
  have er := num_ok E.toENum (k := k - 1) (by omega) hr 0 1000000000000000 S
  have es := num_ok E.toENum (k := k - 1) (by omega) hs (-1) 1 S
  have e : item S (.tup [.str "sum", a, nm, r, s]) (.int 0) = some (.str "sum") := rfl
  have e2 : item S (.lst [r, s]) (.int 0) = some r := rfl
  have e3 : item S (.lst [r, s]) (.int 1) = some s := rfl
  have em := notin_seq hc hnm hn S
  cases hb : numB a (-999) 999 <;> cases hm : memB nm names <;> cases hd : numB r 0 1000000000000000 <;> simp [f_is_term, startU, tyIs, truth, len_tup, endU, e, e2, e3, E.gc, kdt_notin, kdt_item, c_sum, E.gTimes, E.gRow, E.numH, en, er, es, em, hm, hb, hd, it_sum, eq_sum_look, eq_sum_at, eq_sum_sum, big, goodB, Ne.symm ne6]
theorem ist_total {a nm r s : U} (ha : flatU a = true) (hnm : flatU nm = true) (hr : flatU r = true) (hs : flatU s = true) : callN N T k "is_term" [.tup [.str "total", a, nm, r, s], c] S = .ok (.bl (goodB names [.str "total", a, nm, r, s])) S := by
  rw [call_eq (by omega) E.istT rfl]
  have en := num_ok E.toENum (k := k - 1) (by omega) ha (-999) 999 S
  have er := num_ok E.toENum (k := k - 1) (by omega) hr 0 1000000000000000 S
  have es := num_ok E.toENum (k := k - 1) (by omega) hs (-1) 1000000000000000 S
  have e : item S (.tup [.str "total", a, nm, r, s]) (.int 0) = some (.str "total") := rfl
  have e2 : item S (.lst [r, s]) (.int 0) = some r := rfl
  have e3 : item S (.lst [r, s]) (.int 1) = some s := rfl
  have em := notin_seq hc hnm hn S
  cases hb : numB a (-999) 999 <;> cases hm : memB nm names <;> cases hd : numB r 0 1000000000000000 <;> simp [f_is_term, startU, tyIs, truth, len_tup, endU, e, e2, e3, E.gc, kdt_notin, kdt_item, c_total, E.gTimes, E.gRow, E.numH, en, er, es, em, hm, hb, hd, it_total, eq_total_look, eq_total_at, eq_total_sum, big, goodB, ne6]
end
/-- words that are none of these -/
theorem good_len {names : List U} {w : Str} {a : U} {ws : List U} {m : Int} (hd : dctGet cKeys cVals (.inr w) = some (.int m)) (hm : m ≠ (ws.length : Int) + 1 + 1) : goodB names (.str w :: a :: ws) = false := by
  have h1 : ∀ {x : Str} {j : Int}, dctGet cKeys cVals (.inr x) = some (.int j) → j ≠ m → ¬ w = x := fun {x j} e z q => by
    rw [q, e] at hd
    cases hd
    exact z rfl
  match ws, hm with
  | [], hm =>
    have a1 := h1 c_one (by simp at hm; omega)
    have a2 := h1 c_gone (by simp at hm; omega)
    simp [goodB, a1, a2]
  | [_], _ => simp [goodB]
  | [_, _], hm =>
    have a1 := h1 c_look (by simp at hm; omega)
    have a2 := h1 c_at (by simp at hm; omega)
    simp [goodB, a1, a2]
  | [_, _, _], hm =>
    have a1 := h1 c_sum (by simp at hm; omega)
    have a2 := h1 c_total (by simp at hm; omega)
    simp [goodB, a1, a2]
  | _ :: _ :: _ :: _ :: _, _ => simp [goodB]
theorem good_none {names : List U} {w : Str} {a : U} {ws : List U} (hd : dctGet cKeys cVals (.inr w) = none) : goodB names (.str w :: a :: ws) = false := by
  have h1 : ∀ {x : Str} {j : Int}, dctGet cKeys cVals (.inr x) = some (.int j) → ¬ w = x := fun {x j} e q => by
    rw [q, e] at hd
    cases hd
  match ws with
  | [] => simp [goodB, h1 c_one, h1 c_gone]
  | [_] => simp [goodB]
  | [_, _] => simp [goodB, h1 c_look, h1 c_at]
  | [_, _, _] => simp [goodB, h1 c_sum, h1 c_total]
  | _ :: _ :: _ :: _ :: _ => simp [goodB]
/-- a word and its count -/
theorem word_cases (w : Str) : (w = "one" ∨ w = "gone") ∨ w = "look" ∨ w = "at" ∨ w = "sum" ∨ w = "total" ∨ dctGet cKeys cVals (.inr w) = none := by
  by_cases h1 : w = "one"
  · exact .inl (.inl h1)
  by_cases h2 : w = "gone"
  · exact .inl (.inr h2)
  by_cases h3 : w = "look"
  · exact .inr (.inl h3)
  by_cases h4 : w = "at"
  · exact .inr (.inr (.inl h4))
  by_cases h5 : w = "sum"
  · exact .inr (.inr (.inr (.inl h5)))
  by_cases h6 : w = "total"
  · exact .inr (.inr (.inr (.inr (.inl h6))))
  · exact .inr (.inr (.inr (.inr (.inr (c_none h1 h3 h4 h5 h6 h2)))))
theorem ist_ok (E : EIsT N T) {k : Nat} (hk : 2 ≤ k) {c : U} {names : List U} (hc : isSeq c names) (hn : ∀ w ∈ names, flatU w = true) (S : Sto) {ws : List U} (hw : ∀ w ∈ ws, flatU w = true) : callN N T k "is_term" [.tup ws, c] S = .ok (.bl (goodB names ws)) S := by
  match ws, hw with
  | [], _ => rw [ist_short E hk S (by simp)]; rfl
  | [x], _ =>
    rw [ist_short E hk S (by simp)]
    cases x <;> rfl
  | x :: a :: rest, hw =>
    have fx := hw x (by simp)
    have fa := hw a (by simp)
    cases x with
    | int i => rw [ist_int E hk S]; rfl
    | str w =>
      rcases word_cases w with h | rfl | rfl | rfl | rfl | h
      · match rest with
        | [] => rw [ist_two E hk S fa h]; simp [goodB, h]
        | y :: ys =>
          have hd : dctGet cKeys cVals (.inr w) = some (.int 2) := by
            rcases h with rfl | rfl
            · exact c_one
            · exact c_gone
          have hm : (2 : Int) ≠ ((y :: ys).length : Int) + 1 + 1 := by simp; omega
          rw [ist_len E hk S hd hm, good_len hd hm]
      · by_cases hm : (4 : Int) = (rest.length : Int) + 1 + 1
        · match rest, hm with
          | [nm, r], _ => exact ist_look E hk hc hn S fa (hw nm (by simp)) (hw r (by simp))
          | [], hm => simp at hm
          | [_], hm => simp at hm
          | _ :: _ :: _ :: _, hm => simp at hm; omega
        · rw [ist_len E hk S c_look hm, good_len c_look hm]
      · by_cases hm : (4 : Int) = (rest.length : Int) + 1 + 1
        · match rest, hm with
          | [nm, r], _ => exact ist_at E hk hc hn S fa (hw nm (by simp)) (hw r (by simp))
          | [], hm => simp at hm
          | [_], hm => simp at hm
          | _ :: _ :: _ :: _, hm => simp at hm; omega
        · rw [ist_len E hk S c_at hm, good_len c_at hm]
      · by_cases hm : (5 : Int) = (rest.length : Int) + 1 + 1
        · match rest, hm with
          | [nm, r, s], _ => exact ist_sum E hk hc hn S fa (hw nm (by simp)) (hw r (by simp)) (hw s (by simp))
          | [], hm => simp at hm
          | [_], hm => simp at hm
          | [_, _], hm => simp at hm
          | _ :: _ :: _ :: _ :: _, hm => simp at hm; omega
        · rw [ist_len E hk S c_sum hm, good_len c_sum hm]
      · by_cases hm : (5 : Int) = (rest.length : Int) + 1 + 1
        · match rest, hm with
          | [nm, r, s], _ => exact ist_total E hk hc hn S fa (hw nm (by simp)) (hw r (by simp)) (hw s (by simp))
          | [], hm => simp at hm
          | [_], hm => simp at hm
          | [_, _], hm => simp at hm
          | _ :: _ :: _ :: _ :: _, hm => simp at hm; omega
        · rw [ist_len E hk S c_total hm, good_len c_total hm]
      · rw [ist_none E hk S h, good_none h]
    | _ => cases fx
/-! ### a formula -/
/-- a term: a tuple of such -/
def termU : U → Bool
  | .tup ws => ws.all flatU
  | _ => false
def goodU (names : List U) : U → Bool
  | .tup ws => goodB names ws
  | _ => false
theorem termU_of {u : U} (h : termU u = true) : ∃ ws, u = .tup ws ∧ ∀ w ∈ ws, flatU w = true := by
  cases u with
  | tup ws => exact ⟨ws, rfl, List.all_eq_true.mp h⟩
  | _ => cases h
theorem need_ok (E : ENeed N T) {k : Nat} (hk : 3 ≤ k) {c : U} {names : List U} (hc : isSeq c names) (hn : ∀ w ∈ names, flatU w = true) (S : Sto) {fs : List U} (hf : ∀ u ∈ fs, termU u = true) (hl : fs.length ≤ 5) :
    callN N T k "need_formula" [.tup fs, c] S = if fs.all (goodU names) = true then .ok (.tup fs) S else .exc ⟨"BadFormula", [("word", .str "badformula")]⟩ S := by
  rw [call_eq (by omega) E.needT rfl]
  have h5 : ¬ (5 : Int) < (fs.length : Int) := by omega
  have hb : fs.length ≤ big := by simp [big]; omega
  have turn : ∀ u ∈ fs, lcTurn N (callN N T (k - 1)) [.val (.tup fs), .val c, .no] [2] (.nm 2) .non (.call "is_term" (.cons (.v 2) (.cons (.v 1) .nil))) u S = .ok (some (.bl (goodU names u))) S := fun u hu => by
    obtain ⟨ws, rfl, hw⟩ := termU_of (hf u hu)
    have e := ist_ok E.toEIsT (k := k - 1) (by omega) hc hn S hw
    simp [lcTurn, wipeS, E.istH, e, goodU]
  have lc := lc_map (fun u => .bl (goodU names u)) S fs [] turn
  cases hg : fs.all (goodU names) with
  | true => simp [f_need_formula, startU, tyIs, truth, len_tup, E.gTerms, h5, hb, lc, all_map, hg, endU]
  | false => simp [f_need_formula, startU, tyIs, truth, len_tup, E.gTerms, h5, hb, lc, all_map, hg, endU, E.xmB]
end
end Far.L

set_option Elab.async false
set_option linter.all false
set_option maxRecDepth 100000
set_option maxHeartbeats 4000000
namespace Far.L
open PySem PySem.Spec PyProof.Rows L2
theorem ne_bl (S : Sto) (a : Bool) : cop .ne S (.bl a) (.bl a) = some false := by cases a <;> kernel_rfl
theorem eq_bl (S : Sto) (a : Bool) : cop .eq S (.bl a) (.bl a) = some true := by cases a <;> kernel_rfl
theorem eqv_strs (x : Str) : PyData.eqv (.str x) (.str x) = true := by
  unfold PyData.eqv
  simp
theorem eq_str_self {x : Str} (h : flatU (.str x) = true) (S : Sto) : cop .eq S (.str x) (.str x) = some true := by
  have h' : SeqAt.shaped (.str x) = true := h
  show (if (SeqAt.shaped (.str x) && SeqAt.shaped (.str x)) = true then some (PyData.eqv (.str x) (.str x)) else none) = _
  rw [h', eqv_strs]
  rfl
theorem item_at (S : Sto) (us : List U) (j : Int) (h1 : 0 ≤ j) (h2 : j.toNat < us.length) : item S (.tup us) (.int j) = some us[j.toNat] := by
  rw [item_tup, atI_nn _ _ h1 (by omega), List.getElem?_eq_getElem h2]
section
variable {N : Cn} {T : Str → Option LFun}
theorem like_flat (E : ELike N T) {k : Nat} (hk : 1 ≤ k) {u : U} (hu : flatU u = true) (S : Sto) : callN N T k "_law_like" [u, u] S = .ok (.bl true) S := by
  rw [call_eq hk E.likeT rfl]
  cases u with
  | int i => simp [f_law_like, startU, tyIs, tyAny, truth, ne_bl, eq_bl, endU]
  | str x => simp [f_law_like, startU, tyIs, tyAny, truth, ne_bl, eq_bl, eq_str_self hu, endU]
  | _ => cases hu
theorem like_seq (E : ELike N T) {k : Nat} (hk : 2 ≤ k) {us : List U} (hl : us.length < 100000) (S : Sto) (h : ∀ u ∈ us, callN N T (k - 1) "_law_like" [u, u] S = .ok (.bl true) S) : callN N T k "_law_like" [.tup us, .tup us] S = .ok (.bl true) S := by
  rw [call_eq (by omega) E.likeT rfl]
  have turn : ∀ u ∈ rangeU 0 us.length, lcTurn N (callN N T (k - 1)) [.val (.tup us), .val (.tup us), .no] [2] (.nm 2) .non (.call "_law_like" (.cons (.sub (.v 0) (.v 2)) (.cons (.sub (.v 1) (.v 2)) .nil))) u S = .ok (some (.bl ((fun _ => true) u))) S := fun u hu => by
    unfold rangeU at hu
    obtain ⟨j, hj, rfl⟩ := List.mem_map.mp hu
    have hj2 : j < us.length := by simpa using List.mem_range.mp hj
    have e1 : item S (.tup us) (.int (0 + (j : Int))) = some us[j] := by
      rw [item_at S us _ (by omega) (by simpa using hj2)]
      simp
    have e2 := h us[j] (List.getElem_mem _)
    simp only [Int.zero_add] at e1
    simp [lcTurn, wipeS, E.likeH, e1, e2]
  have lc := lc_map (fun u => .bl ((fun _ => true) u)) S (rangeU 0 us.length) [] turn
  have hr : (rangeU 0 us.length).length ≤ big := by
    simp [rangeU, big]; omega
  have h1 : (us.length : Int) < 100000 := by omega
  have h2 : (-100000000000000000 : Int) < us.length := by omega
  have ha := all_map S (fun _ => true) (rangeU 0 us.length)
  simp [f_law_like, startU, tyIs, tyAny, truth, ne_bl, eq_bl, len_tup, h1, h2, hr, endU, lc]
  rw [ha]
  simp
/-- a formula is like itself -/
theorem like_form (E : ELike N T) {k : Nat} (hk : 3 ≤ k) {fs : List U} (hf : ∀ u ∈ fs, termU u = true ∧ ∀ ws, u = .tup ws → ws.length < 100000) (hl : fs.length < 100000) (S : Sto) : callN N T k "_law_like" [.tup fs, .tup fs] S = .ok (.bl true) S := by
  refine like_seq E (by omega) hl S fun u hu => ?_
  obtain ⟨h1, h2⟩ := hf u hu
  obtain ⟨ws, rfl, hw⟩ := termU_of h1
  exact like_seq E (by omega) (h2 ws rfl) S fun v hv => like_flat E (by omega) (hw v hv) S
/-- a drawn formula -/
theorem form_ok (E : EForm N T) {k : Nat} (hk : 5 ≤ k) {o : SO} {R : Sto} (h : Bg o) {us : List U} (h1 : us ≠ []) (h2 : us.length < 100000) (h3 : ∀ u ∈ us, flatU u = true) {near : Int} (h4 : 0 < near) (h5 : near < 18446744073709551616) :
    ∃ fs o', callN N T k "_law_formula" [.ref 0, .lst us, .int near] (o :: R) = .ok (.tup fs) (o' :: R) ∧ (∀ f ∈ fs, termU f = true ∧ ∀ ws, f = .tup ws → ws.length ≤ 5) ∧ fs.length ≤ 3 ∧ Bg o' := by
  obtain ⟨u, o1, e1, m1, b1⟩ := of_ok E.toEOf (k := k - 1) (by omega) (R := R) h (us := [.int 1, .int 2, .int 1, .int 3, .int 0, .int 2]) (by simp) (by simp)
  have hu : ∃ j : Int, u = .int j ∧ 0 ≤ j ∧ j ≤ 3 := by
    simp only [List.mem_cons, List.not_mem_nil, or_false] at m1
    rcases m1 with h | h | h | h | h | h <;> exact ⟨_, h, by decide, by decide⟩
  obtain ⟨j, rfl, j0, j3⟩ := hu
  rw [call_eq (by omega) E.formT rfl]
  obtain ⟨ws, S2, e2, l2, p2, o2, rfl, b2⟩ := lc_inv (turn := lcTurn N (callN N T (k - 1)) [.val (.ref 0), .val (.lst us), .val (.int near), .no] [3] (.nm 3) .non (.call "_law_term" (.cons (.v 0) (.cons (.v 1) (.cons (.v 2) .nil))))) (fun S => ∃ o, S = o :: R ∧ Bg o) (fun f => termU f = true ∧ ∀ ws, f = .tup ws → ws.length ≤ 5) (rangeU 0 j) [] (o1 :: R) (fun x hx S hS => by
    obtain ⟨o, rfl, b⟩ := hS
    obtain ⟨ws, o', e, f, l, b'⟩ := term_ok E.toETerm (k := k - 1) (by omega) (R := R) b h1 h2 h3 h4 h5
    refine ⟨.tup ws, o' :: R, ?_, ⟨List.all_eq_true.mpr f, fun vs e => ?_⟩, o', rfl, b'⟩
    · simp [lcTurn, wipeS, E.termH, e]
    · cases e; exact l) ⟨o1, rfl, b1⟩
  have hr : (rangeU 0 j).length = j.toNat := by simp [rangeU]
  have hb : (rangeU 0 j).length ≤ big := by rw [hr]; simp [big]; omega
  refine ⟨ws, o2, ?_, p2, by rw [l2, hr]; omega, b2⟩
  have c1 : j < 100000 := by omega
  have c2 : (-100000000000000000 : Int) < j := by omega
  simp only [List.nil_append] at e2
  have et : fnc .tuple (o2 :: R) [.lst ws] = some (.val (.tup ws)) := rfl
  simp [f_law_formula, startU, E.ofH, e1, c1, c2, e2, et, endU, big]
  rw [if_pos (by simp [hr]; omega)]
  simp [et]
end
end Far.L

set_option Elab.async false
set_option linter.all false
set_option maxRecDepth 100000
set_option maxHeartbeats 4000000
namespace Far.K03
open PySem PySem.Spec PyProof.Rows L2 Far.L
def top (i : Nat) : Stmt := PySem.Challenge.pw_farsheet_k03_formulas_looked_at.main.body.getD i (.Pass ⟨0, 0, 0, 0⟩)
/-! ### the defs -/
def f_law_bent : LFun := ⟨["_law_bag_here", "_law_term_here"], ["_law_bag_here", "_law_term_here", "_law_at", "_law_odd"], (.cons (.asg (.nm 2) (.call "_law_pull" (.cons (.v 0) (.cons (.op .add (.fn .len (.v 1)) (.c (.int 1))) .nil))))
  (.cons (.asg (.nm 3) (.call "_law_of" (.cons (.v 0) (.cons (.lst (.cons (.c (.str "a")) (.cons (.c (.str "d")) (.cons (.c (.str "sum")) (.cons (.c (.str "gone")) (.cons (.c (.int 2)) (.cons (.neg (.c (.int 2))) (.cons (.c (.int 1000)) (.cons (.neg (.c (.int 1))) (.cons (.op .pow (.c (.int 10)) (.c (.int 15))) (.cons (.op .add (.op .pow (.c (.int 10)) (.c (.int 15))) (.c (.int 1))) (.cons (.c (.str "")) (.cons (.c (.int 0)) (.cons (.c (.str "look")) .nil)))))))))))))) .nil))))
  (.cons (.ret (.call "_law_of" (.cons (.v 0) (.cons (.lst (.cons (.op .add (.op .add (.slc (.v 1) .non (.som (.v 2))) (.tup (.cons (.v 3) .nil))) (.slc (.v 1) (.som (.op .add (.v 2) (.c (.int 1)))) .non)) (.cons (.op .add (.slc (.v 1) .non (.som (.v 2))) (.slc (.v 1) (.som (.op .add (.v 2) (.c (.int 1)))) .non)) (.cons (.op .add (.v 1) (.tup (.cons (.v 3) .nil))) .nil)))) .nil))))
  .nil)))⟩
def f_law_good : LFun := ⟨["_law_term_here", "_law_names"], ["_law_term_here", "_law_names", "_law_counts", "_law_row"], (.cons (.asg (.nm 2) (.dct [.inr "one", .inr "look", .inr "at", .inr "sum", .inr "total", .inr "gone"] (.cons (.c (.int 2)) (.cons (.c (.int 4)) (.cons (.c (.int 4)) (.cons (.c (.int 5)) (.cons (.c (.int 5)) (.cons (.c (.int 2)) .nil))))))))
  (.cons (.ite (.or (.cmp .eq (.fn .len (.v 0)) (.c (.int 0))) (.or (.cmp .notin (.sub (.v 0) (.c (.int 0))) (.v 2)) (.cmp .ne (.fn .len (.v 0)) (.sub (.v 2) (.sub (.v 0) (.c (.int 0))))))) (.cons (.ret (.c (.bl false)))
    .nil) .nil)
  (.cons (.ite (.or (.not (.e (.isi (.sub (.v 0) (.c (.int 1))) .int))) (.cmp .gt (.fn .abs (.sub (.v 0) (.c (.int 1)))) (.c (.int 999)))) (.cons (.ret (.c (.bl false)))
    .nil) .nil)
  (.cons (.ite (.cmp .eq (.fn .len (.v 0)) (.c (.int 2))) (.cons (.ret (.c (.bl true)))
    .nil) .nil)
  (.cons (.ite (.or (.cmp .notin (.sub (.v 0) (.c (.int 2))) (.v 1)) (.not (.e (.fn .all (.lc [3] (.nm 3) (.seq (.slc (.v 0) (.som (.c (.int 3))) .non)) .non (.isi (.v 3) .int)))))) (.cons (.ret (.c (.bl false)))
    .nil) .nil)
  (.cons (.ite (.cmp .eq (.sub (.v 0) (.c (.int 0))) (.c (.str "look"))) (.cons (.ret (.cmp .lt (.fn .abs (.sub (.v 0) (.c (.int 3)))) (.c (.int 2))))
    .nil) .nil)
  (.cons (.ite (.not (.chn .le .le (.c (.int 0)) (.sub (.v 0) (.c (.int 3))) (.op .pow (.c (.int 10)) (.c (.int 15))))) (.cons (.ret (.c (.bl false)))
    .nil) .nil)
  (.cons (.ret (.or (.cmp .eq (.sub (.v 0) (.c (.int 0))) (.c (.str "at"))) (.chn .le .le (.neg (.c (.int 1))) (.sub (.v 0) (.c (.int 4))) (.ite (.cmp .eq (.sub (.v 0) (.c (.int 0))) (.c (.str "sum"))) (.c (.int 1)) (.op .pow (.c (.int 10)) (.c (.int 15)))))))
  .nil))))))))⟩
def f_law : LFun := ⟨["_law_script"], ["_law_script", "_law_bag_here", "_law_turn", "_law_names", "_law_formula_here", "_law_at", "_law_good_here", "_law_told", "_law_term_here"], (.cons (.asg (.nm 1) (.call "_law_bag" (.cons (.v 0) .nil)))
  (.cons (.loop (.nm 2) (.rng1 (.c (.int 8))) (.cons (.asg (.nm 3) (.slc (.lst (.cons (.c (.str "a")) (.cons (.c (.str "b")) (.cons (.c (.str "c")) .nil)))) .non (.som (.op .add (.c (.int 1)) (.call "_law_pull" (.cons (.v 1) (.cons (.c (.int 3)) .nil)))))))
    (.cons (.asg (.nm 4) (.op .add (.call "_law_formula" (.cons (.v 1) (.cons (.v 3) (.cons (.c (.int 9)) .nil)))) (.tup (.cons (.call "_law_term" (.cons (.v 1) (.cons (.v 3) (.cons (.c (.int 9)) .nil)))) .nil))))
    (.cons (.ite (.cmp .eq (.call "_law_pull" (.cons (.v 1) (.cons (.c (.int 2)) .nil))) (.c (.int 0))) (.cons (.asg (.nm 5) (.call "_law_pull" (.cons (.v 1) (.cons (.fn .len (.v 4)) .nil))))
    (.cons (.asg (.nm 4) (.op .add (.op .add (.slc (.v 4) .non (.som (.v 5))) (.tup (.cons (.call "_law_bent" (.cons (.v 1) (.cons (.sub (.v 4) (.v 5)) .nil))) .nil))) (.slc (.v 4) (.som (.op .add (.v 5) (.c (.int 1)))) .non)))
    .nil)) .nil)
    (.cons (.par [6, 7] (.cons (.fn .all (.lc [8] (.nm 8) (.seq (.v 4)) .non (.call "_law_good" (.cons (.v 8) (.cons (.v 3) .nil))))) (.cons (.c .non) .nil)))
    (.cons (.tri (.cons (.asg (.nm 7) (.call "need_formula" (.cons (.v 4) (.cons (.call "_law_of" (.cons (.v 1) (.cons (.lst (.cons (.fn .list (.v 3)) (.cons (.fn .tuple (.v 3)) .nil))) .nil))) .nil))))
    .nil) ["BadFormula"] none (.cons (.asg (.nm 7) (.c .non))
    .nil))
    (.cons (.ite (.or (.cmp .ne (.cmp .notN (.v 7) (.c .non)) (.v 6)) (.and (.e (.v 6)) (.not (.e (.call "_law_like" (.cons (.v 7) (.cons (.v 4) .nil))))))) (.cons (.ret (.c (.bl false)))
    .nil) .nil)
    .nil)))))))
  (.cons (.ret (.cmp .eq (.call "need_formula" (.cons (.tup .nil) (.cons (.lst .nil) .nil))) (.tup .nil)))
  .nil)))⟩
def tbl : List (Str × LFun) := [("_law_bag", f_law_bag), ("_law_pull", f_law_pull), ("_law_of", f_law_of), ("_law_bent", f_law_bent), ("_law_times", f_law_times), ("_law_term", f_law_term), ("_law_formula", f_law_formula), ("_law_good", f_law_good), ("_law_like", f_law_like), ("is_number", f_is_number), ("is_term", f_is_term), ("need_formula", f_need_formula), ("law", f_law)]
def T (f : Str) : Option LFun := tbl.lookup f
def xs : List Str := ["BadFormula"]
def hs : List Str := ["BadFormula"]
/-! ### the head -/
def d_f_law_bag : He.DefD := ⟨("_law_bag", none), "_law_bag", "_law_bag", defArgs (top 12), defBody (top 12), defScope (top 12), [], []⟩
def d_f_law_pull : He.DefD := ⟨("_law_pull", none), "_law_pull", "_law_pull", defArgs (top 13), defBody (top 13), defScope (top 13), [], []⟩
def d_f_law_of : He.DefD := ⟨("_law_of", none), "_law_of", "_law_of", defArgs (top 14), defBody (top 14), defScope (top 14), [], []⟩
def d_f_law_bent : He.DefD := ⟨("_law_bent", none), "_law_bent", "_law_bent", defArgs (top 20), defBody (top 20), defScope (top 20), [], []⟩
def d_f_law_times : He.DefD := ⟨("_law_times", none), "_law_times", "_law_times", defArgs (top 16), defBody (top 16), defScope (top 16), [], []⟩
def d_f_law_term : He.DefD := ⟨("_law_term", none), "_law_term", "_law_term", defArgs (top 17), defBody (top 17), defScope (top 17), [], []⟩
def d_f_law_formula : He.DefD := ⟨("_law_formula", none), "_law_formula", "_law_formula", defArgs (top 18), defBody (top 18), defScope (top 18), [], []⟩
def d_f_law_good : He.DefD := ⟨("_law_good", none), "_law_good", "_law_good", defArgs (top 19), defBody (top 19), defScope (top 19), [], []⟩
def d_f_law_like : He.DefD := ⟨("_law_like", none), "_law_like", "_law_like", defArgs (top 15), defBody (top 15), defScope (top 15), [], []⟩
def d_f_is_number : He.DefD := ⟨("is_number", none), "is_number", "is_number", defArgs (top 8), defBody (top 8), defScope (top 8), [], []⟩
def d_f_is_term : He.DefD := ⟨("is_term", none), "is_term", "is_term", defArgs (top 9), defBody (top 9), defScope (top 9), [], []⟩
def d_f_need_formula : He.DefD := ⟨("need_formula", none), "need_formula", "need_formula", defArgs (top 10), defBody (top 10), defScope (top 10), [], []⟩
def d_f_law : He.DefD := ⟨("law", none), "law", "law", defArgs (top 21), defBody (top 21), defScope (top 21), [], []⟩
theorem c_f_law_bag : fnB f_law_bag (defScope (top 12)) = true ∧ chkSs xs hs (fnK f_law_bag (defScope (top 12))) f_law_bag.body (defBody (top 12)) = true := by decide +kernel
theorem c_f_law_pull : fnB f_law_pull (defScope (top 13)) = true ∧ chkSs xs hs (fnK f_law_pull (defScope (top 13))) f_law_pull.body (defBody (top 13)) = true := by decide +kernel
theorem c_f_law_of : fnB f_law_of (defScope (top 14)) = true ∧ chkSs xs hs (fnK f_law_of (defScope (top 14))) f_law_of.body (defBody (top 14)) = true := by decide +kernel
theorem c_f_law_bent : fnB f_law_bent (defScope (top 20)) = true ∧ chkSs xs hs (fnK f_law_bent (defScope (top 20))) f_law_bent.body (defBody (top 20)) = true := by decide +kernel
theorem c_f_law_times : fnB f_law_times (defScope (top 16)) = true ∧ chkSs xs hs (fnK f_law_times (defScope (top 16))) f_law_times.body (defBody (top 16)) = true := by decide +kernel
theorem c_f_law_term : fnB f_law_term (defScope (top 17)) = true ∧ chkSs xs hs (fnK f_law_term (defScope (top 17))) f_law_term.body (defBody (top 17)) = true := by decide +kernel
theorem c_f_law_formula : fnB f_law_formula (defScope (top 18)) = true ∧ chkSs xs hs (fnK f_law_formula (defScope (top 18))) f_law_formula.body (defBody (top 18)) = true := by decide +kernel
theorem c_f_law_good : fnB f_law_good (defScope (top 19)) = true ∧ chkSs xs hs (fnK f_law_good (defScope (top 19))) f_law_good.body (defBody (top 19)) = true := by decide +kernel
theorem c_f_law_like : fnB f_law_like (defScope (top 15)) = true ∧ chkSs xs hs (fnK f_law_like (defScope (top 15))) f_law_like.body (defBody (top 15)) = true := by decide +kernel
theorem c_f_is_number : fnB f_is_number (defScope (top 8)) = true ∧ chkSs xs hs (fnK f_is_number (defScope (top 8))) f_is_number.body (defBody (top 8)) = true := by decide +kernel
theorem c_f_is_term : fnB f_is_term (defScope (top 9)) = true ∧ chkSs xs hs (fnK f_is_term (defScope (top 9))) f_is_term.body (defBody (top 9)) = true := by decide +kernel
theorem c_f_need_formula : fnB f_need_formula (defScope (top 10)) = true ∧ chkSs xs hs (fnK f_need_formula (defScope (top 10))) f_need_formula.body (defBody (top 10)) = true := by decide +kernel
theorem c_f_law : fnB f_law (defScope (top 21)) = true ∧ chkSs xs hs (fnK f_law (defScope (top 21))) f_law.body (defBody (top 21)) = true := by decide +kernel
end Far.K03

set_option Elab.async false
set_option linter.all false
set_option maxRecDepth 100000
set_option maxHeartbeats 0
namespace Far.K03
open PySem PySem.Spec PyProof.Rows L2 Far.L
def d_SheetError : He.DefD := ⟨("SheetError", some "__init__"), "__init__", "SheetError.__init__", defArgs (methOf (top 1) 0), defBody (methOf (top 1) 0), defScope (methOf (top 1) 0), [], []⟩
def d_BadFormula : He.DefD := ⟨("BadFormula", some "__init__"), "__init__", "BadFormula.__init__", defArgs (methOf (top 2) 0), defBody (methOf (top 2) 0), defScope (methOf (top 2) 0), [], []⟩
def fn : List He.DefD := [d_SheetError, d_BadFormula, d_f_law_bag, d_f_law_pull, d_f_law_of, d_f_law_bent, d_f_law_times, d_f_law_term, d_f_law_formula, d_f_law_good, d_f_law_like, d_f_is_number, d_f_is_term, d_f_need_formula, d_f_law]
def fa : List He.Fa := [.glo "_law_bag", .glo "_law_pull", .glo "_law_of", .glo "_law_bent", .glo "_law_times", .glo "_law_term", .glo "_law_formula", .glo "_law_good", .glo "_law_like", .glo "is_number", .glo "is_term", .glo "need_formula", .glo "law", .glo "SheetError", .glo "BadFormula", .glo "COUNTS", .free "len", .free "all", .free "any", .free "tuple", .free "list", .free "abs", .free "isinstance", .free "int", .free "bool", .free "str", .free "dict", .free "range", .free "ValueError", .int "MOST_ROW" 1000000000000000, .int "MOST_TERMS" 5, .int "MOST_TIMES" 999, .exm "BadFormula" "BadFormula" true, .noat "BadFormula" "word", .meth "BadFormula" "__init__", .meth "SheetError" "__init__"]
def cnt : List (Str × V) := [("one", .int 2), ("look", .int 4), ("at", .int 4), ("sum", .int 5), ("total", .int 5), ("gone", .int 2)]
def ts : List He.Tab := [(fun K => He.ga K "COUNTS", ["one", "look", "at", "sum", "total", "gone"])]
def ck (K : PySem.W.Frag) : Bool := oexB K (He.ga K "BadFormula") && (veB K && (baseB K (He.ga K "SheetError") && kentB K (He.ga K "COUNTS") cnt))
abbrev Rw : PySem.W.OpenRow := PySem.W.OpenLaw.row PySem.Challenge.rw_farsheet_k03_formulas_looked_at
abbrev hk : PySem.W.Hook := hookF 5 fa fn ts ck
def ob (s : PySem.W.SharedT) : hk.α := obsF 5 fa fn ts ck (HandSHeadRun.getT s)
theorem ob_eq (s : PySem.W.SharedT) : ob s = hk.obs s.abs := obsF_eq (HandSHeadRun.getT_eq s)
def loose : List Str := ["SheetError", "BadFormula", "MOST_ROW", "MOST_TERMS", "MOST_TIMES", "COUNTS", "is_number", "is_term", "need_formula", "_law_bag", "_law_pull", "_law_of", "_law_like", "_law_times", "_law_term", "_law_formula", "_law_good", "_law_bent"]
theorem run (w : World) : HandSHeadRun.RunEq Rw (PySem.W.view Rw.prog [21]) hk ob 6000 loose w := by
  refine PySem.W.byRow2 "special-get-raises" (P := fun w => HandSHeadRun.RunEq Rw (PySem.W.view Rw.prog [21]) hk ob 6000 loose w) (fun w os => ?_) (fun w os => ?_) w
  · kernel_rfl
  · kernel_rfl
end Far.K03

set_option Elab.async false
set_option linter.all false
set_option maxRecDepth 100000
set_option maxHeartbeats 4000000
namespace Far.K03
open PySem PySem.Spec PyProof.Rows L2 Far.L
def gv (x : Str) : Option U := if x = "COUNTS" then some (.kdt [.inr "one", .inr "look", .inr "at", .inr "sum", .inr "total", .inr "gone"] [.int 2, .int 4, .int 4, .int 5, .int 5, .int 2]) else
  if x = "MOST_ROW" then some (.int 1000000000000000) else if x = "MOST_TERMS" then some (.int 5) else if x = "MOST_TIMES" then some (.int 999) else none
def xmv (c : Str) (us : List U) : Option (List (Str × U)) := if c = "BadFormula" then (match us with
  | [] => some [("word", .str "badformula")]
  | _ => none) else none
def subv (e c : Str) : Option Bool := if e = "BadFormula" ∧ c = "BadFormula" then some true else none
def N : Cn := ⟨gv, xmv, subv, fun f => (T f).isSome⟩
section
variable {P : Program} {w : World} {K : PySem.W.Frag} {h : Heap} {mg : Str → Option Value}
theorem ff_f_law_bag (X : K.In h) (G : h.Ns mainGlobals mg) (c : He.SaysT fa fn ts w K) : FnF xs hs K mg "_law_bag" f_law_bag := by
  obtain ⟨fd, F⟩ := c.d.def_ 2 (d := d_f_law_bag) rfl
  exact ⟨_, fd, _, _, _, _, _, _, He.glo_ok X G (c.d.fact 0 (f := .glo "_law_bag") rfl), F, c_f_law_bag.1, c_f_law_bag.2, F.bindsN fun _ _ _ _ _ _ us hl => match us, hl with | [_], _ => rfl⟩
theorem ff_f_law_pull (X : K.In h) (G : h.Ns mainGlobals mg) (c : He.SaysT fa fn ts w K) : FnF xs hs K mg "_law_pull" f_law_pull := by
  obtain ⟨fd, F⟩ := c.d.def_ 3 (d := d_f_law_pull) rfl
  exact ⟨_, fd, _, _, _, _, _, _, He.glo_ok X G (c.d.fact 1 (f := .glo "_law_pull") rfl), F, c_f_law_pull.1, c_f_law_pull.2, F.bindsN fun _ _ _ _ _ _ us hl => match us, hl with | [_, _], _ => rfl⟩
theorem ff_f_law_of (X : K.In h) (G : h.Ns mainGlobals mg) (c : He.SaysT fa fn ts w K) : FnF xs hs K mg "_law_of" f_law_of := by
  obtain ⟨fd, F⟩ := c.d.def_ 4 (d := d_f_law_of) rfl
  exact ⟨_, fd, _, _, _, _, _, _, He.glo_ok X G (c.d.fact 2 (f := .glo "_law_of") rfl), F, c_f_law_of.1, c_f_law_of.2, F.bindsN fun _ _ _ _ _ _ us hl => match us, hl with | [_, _], _ => rfl⟩
theorem ff_f_law_bent (X : K.In h) (G : h.Ns mainGlobals mg) (c : He.SaysT fa fn ts w K) : FnF xs hs K mg "_law_bent" f_law_bent := by
  obtain ⟨fd, F⟩ := c.d.def_ 5 (d := d_f_law_bent) rfl
  exact ⟨_, fd, _, _, _, _, _, _, He.glo_ok X G (c.d.fact 3 (f := .glo "_law_bent") rfl), F, c_f_law_bent.1, c_f_law_bent.2, F.bindsN fun _ _ _ _ _ _ us hl => match us, hl with | [_, _], _ => rfl⟩
theorem ff_f_law_times (X : K.In h) (G : h.Ns mainGlobals mg) (c : He.SaysT fa fn ts w K) : FnF xs hs K mg "_law_times" f_law_times := by
  obtain ⟨fd, F⟩ := c.d.def_ 6 (d := d_f_law_times) rfl
  exact ⟨_, fd, _, _, _, _, _, _, He.glo_ok X G (c.d.fact 4 (f := .glo "_law_times") rfl), F, c_f_law_times.1, c_f_law_times.2, F.bindsN fun _ _ _ _ _ _ us hl => match us, hl with | [_], _ => rfl⟩
theorem ff_f_law_term (X : K.In h) (G : h.Ns mainGlobals mg) (c : He.SaysT fa fn ts w K) : FnF xs hs K mg "_law_term" f_law_term := by
  obtain ⟨fd, F⟩ := c.d.def_ 7 (d := d_f_law_term) rfl
  exact ⟨_, fd, _, _, _, _, _, _, He.glo_ok X G (c.d.fact 5 (f := .glo "_law_term") rfl), F, c_f_law_term.1, c_f_law_term.2, F.bindsN fun _ _ _ _ _ _ us hl => match us, hl with | [_, _, _], _ => rfl⟩
theorem ff_f_law_formula (X : K.In h) (G : h.Ns mainGlobals mg) (c : He.SaysT fa fn ts w K) : FnF xs hs K mg "_law_formula" f_law_formula := by
  obtain ⟨fd, F⟩ := c.d.def_ 8 (d := d_f_law_formula) rfl
  exact ⟨_, fd, _, _, _, _, _, _, He.glo_ok X G (c.d.fact 6 (f := .glo "_law_formula") rfl), F, c_f_law_formula.1, c_f_law_formula.2, F.bindsN fun _ _ _ _ _ _ us hl => match us, hl with | [_, _, _], _ => rfl⟩
theorem ff_f_law_good (X : K.In h) (G : h.Ns mainGlobals mg) (c : He.SaysT fa fn ts w K) : FnF xs hs K mg "_law_good" f_law_good := by
  obtain ⟨fd, F⟩ := c.d.def_ 9 (d := d_f_law_good) rfl
  exact ⟨_, fd, _, _, _, _, _, _, He.glo_ok X G (c.d.fact 7 (f := .glo "_law_good") rfl), F, c_f_law_good.1, c_f_law_good.2, F.bindsN fun _ _ _ _ _ _ us hl => match us, hl with | [_, _], _ => rfl⟩
theorem ff_f_law_like (X : K.In h) (G : h.Ns mainGlobals mg) (c : He.SaysT fa fn ts w K) : FnF xs hs K mg "_law_like" f_law_like := by
  obtain ⟨fd, F⟩ := c.d.def_ 10 (d := d_f_law_like) rfl
  exact ⟨_, fd, _, _, _, _, _, _, He.glo_ok X G (c.d.fact 8 (f := .glo "_law_like") rfl), F, c_f_law_like.1, c_f_law_like.2, F.bindsN fun _ _ _ _ _ _ us hl => match us, hl with | [_, _], _ => rfl⟩
theorem ff_f_is_number (X : K.In h) (G : h.Ns mainGlobals mg) (c : He.SaysT fa fn ts w K) : FnF xs hs K mg "is_number" f_is_number := by
  obtain ⟨fd, F⟩ := c.d.def_ 11 (d := d_f_is_number) rfl
  exact ⟨_, fd, _, _, _, _, _, _, He.glo_ok X G (c.d.fact 9 (f := .glo "is_number") rfl), F, c_f_is_number.1, c_f_is_number.2, F.bindsN fun _ _ _ _ _ _ us hl => match us, hl with | [_, _, _], _ => rfl⟩
theorem ff_f_is_term (X : K.In h) (G : h.Ns mainGlobals mg) (c : He.SaysT fa fn ts w K) : FnF xs hs K mg "is_term" f_is_term := by
  obtain ⟨fd, F⟩ := c.d.def_ 12 (d := d_f_is_term) rfl
  exact ⟨_, fd, _, _, _, _, _, _, He.glo_ok X G (c.d.fact 10 (f := .glo "is_term") rfl), F, c_f_is_term.1, c_f_is_term.2, F.bindsN fun _ _ _ _ _ _ us hl => match us, hl with | [_, _], _ => rfl⟩
theorem ff_f_need_formula (X : K.In h) (G : h.Ns mainGlobals mg) (c : He.SaysT fa fn ts w K) : FnF xs hs K mg "need_formula" f_need_formula := by
  obtain ⟨fd, F⟩ := c.d.def_ 13 (d := d_f_need_formula) rfl
  exact ⟨_, fd, _, _, _, _, _, _, He.glo_ok X G (c.d.fact 11 (f := .glo "need_formula") rfl), F, c_f_need_formula.1, c_f_need_formula.2, F.bindsN fun _ _ _ _ _ _ us hl => match us, hl with | [_, _], _ => rfl⟩
theorem ff_f_law (X : K.In h) (G : h.Ns mainGlobals mg) (c : He.SaysT fa fn ts w K) : FnF xs hs K mg "law" f_law := by
  obtain ⟨fd, F⟩ := c.d.def_ 14 (d := d_f_law) rfl
  exact ⟨_, fd, _, _, _, _, _, _, He.glo_ok X G (c.d.fact 12 (f := .glo "law") rfl), F, c_f_law.1, c_f_law.2, F.bindsN fun _ _ _ _ _ _ us hl => match us, hl with | [_], _ => rfl⟩
theorem fns_ok (X : K.In h) (G : h.Ns mainGlobals mg) (c : He.SaysT fa fn ts w K) (f : Str) (F : LFun) (e : T f = some F) : FnF xs hs K mg f F := by
  unfold T tbl at e
  rw [List.lookup_cons] at e
  split at e
  · rename_i q
    rw [eq_of_beq q]
    cases e
    exact ff_f_law_bag X G c
  rw [List.lookup_cons] at e
  split at e
  · rename_i q
    rw [eq_of_beq q]
    cases e
    exact ff_f_law_pull X G c
  rw [List.lookup_cons] at e
  split at e
  · rename_i q
    rw [eq_of_beq q]
    cases e
    exact ff_f_law_of X G c
  rw [List.lookup_cons] at e
  split at e
  · rename_i q
    rw [eq_of_beq q]
    cases e
    exact ff_f_law_bent X G c
  rw [List.lookup_cons] at e
  split at e
  · rename_i q
    rw [eq_of_beq q]
    cases e
    exact ff_f_law_times X G c
  rw [List.lookup_cons] at e
  split at e
  · rename_i q
    rw [eq_of_beq q]
    cases e
    exact ff_f_law_term X G c
  rw [List.lookup_cons] at e
  split at e
  · rename_i q
    rw [eq_of_beq q]
    cases e
    exact ff_f_law_formula X G c
  rw [List.lookup_cons] at e
  split at e
  · rename_i q
    rw [eq_of_beq q]
    cases e
    exact ff_f_law_good X G c
  rw [List.lookup_cons] at e
  split at e
  · rename_i q
    rw [eq_of_beq q]
    cases e
    exact ff_f_law_like X G c
  rw [List.lookup_cons] at e
  split at e
  · rename_i q
    rw [eq_of_beq q]
    cases e
    exact ff_f_is_number X G c
  rw [List.lookup_cons] at e
  split at e
  · rename_i q
    rw [eq_of_beq q]
    cases e
    exact ff_f_is_term X G c
  rw [List.lookup_cons] at e
  split at e
  · rename_i q
    rw [eq_of_beq q]
    cases e
    exact ff_f_need_formula X G c
  rw [List.lookup_cons] at e
  split at e
  · rename_i q
    rw [eq_of_beq q]
    cases e
    exact ff_f_law X G c
  cases e
theorem free_all (X : K.In h) (G : h.Ns mainGlobals mg) (c : He.SaysT fa fn ts w K) : ∀ x ∈ bltNames, mg x = none := by
  intro x hx
  simp only [bltNames, List.mem_cons, List.not_mem_nil, or_false] at hx
  rcases hx with rfl | rfl | rfl | rfl | rfl | rfl | rfl | rfl | rfl | rfl | rfl | rfl
  · exact He.free_ok X G (c.d.fact 16 (f := .free "len") rfl)
  · exact He.free_ok X G (c.d.fact 17 (f := .free "all") rfl)
  · exact He.free_ok X G (c.d.fact 18 (f := .free "any") rfl)
  · exact He.free_ok X G (c.d.fact 19 (f := .free "tuple") rfl)
  · exact He.free_ok X G (c.d.fact 20 (f := .free "list") rfl)
  · exact He.free_ok X G (c.d.fact 21 (f := .free "abs") rfl)
  · exact He.free_ok X G (c.d.fact 22 (f := .free "isinstance") rfl)
  · exact He.free_ok X G (c.d.fact 23 (f := .free "int") rfl)
  · exact He.free_ok X G (c.d.fact 24 (f := .free "bool") rfl)
  · exact He.free_ok X G (c.d.fact 25 (f := .free "str") rfl)
  · exact He.free_ok X G (c.d.fact 26 (f := .free "dict") rfl)
  · exact He.free_ok X G (c.d.fact 27 (f := .free "range") rfl)
theorem con_ok (X : K.In h) (G : h.Ns mainGlobals mg) (c : He.SaysT fa fn ts w K) (k : ck K = true) (x : Str) (u : U) (e : gv x = some u) : ∃ v z, mg x = some z ∧ RelV v z ∧ CV K w (fun _ => none) [] u v := by
  unfold gv at e
  split at e
  · rename_i q
    subst q
    cases e
    exact ⟨.ref (He.ga K "COUNTS"), _, He.glo_ok X G (c.d.fact 15 (f := .glo "COUNTS") rfl), rfl, .kdc (kentB_ok (ps := cnt) (ba (ba (ba k).2).2).2 (c.tab 0)) (.cons (.int 2) (.cons (.int 4) (.cons (.int 4) (.cons (.int 5) (.cons (.int 5) (.cons (.int 2) .nil))))))⟩
  split at e
  · rename_i q
    subst q
    cases e
    obtain ⟨t, ht⟩ := He.int_ok X G (c.d.fact 29 (f := .int "MOST_ROW" 1000000000000000) rfl)
    exact ⟨.int 1000000000000000, _, ht, ⟨t, rfl⟩, .int _⟩
  split at e
  · rename_i q
    subst q
    cases e
    obtain ⟨t, ht⟩ := He.int_ok X G (c.d.fact 30 (f := .int "MOST_TERMS" 5) rfl)
    exact ⟨.int 5, _, ht, ⟨t, rfl⟩, .int _⟩
  split at e
  · rename_i q
    subst q
    cases e
    obtain ⟨t, ht⟩ := He.int_ok X G (c.d.fact 31 (f := .int "MOST_TIMES" 999) rfl)
    exact ⟨.int 999, _, ht, ⟨t, rfl⟩, .int _⟩
  cases e
theorem rse_ok (X : K.In h) (G : h.Ns mainGlobals mg) (c : He.SaysT fa fn ts w K) (k : ck K = true) (base : Heap) : RsC0 N P w K mg base "BadFormula" := by
  obtain ⟨k1, k2⟩ := ba k
  obtain ⟨k3, k4⟩ := ba k2
  obtain ⟨k5, k6⟩ := ba k4
  obtain ⟨r, fc⟩ := baseB_ok k5
  obtain ⟨fdS, DS⟩ := c.d.def_ 0 (d := d_SheetError) rfl
  obtain ⟨fdB, DB⟩ := c.d.def_ 1 (d := d_BadFormula) rfl
  have mS := He.meth_ok (c.d.fact 35 (f := .meth "SheetError" "__init__") rfl)
  have mB := He.meth_ok (c.d.fact 34 (f := .meth "BadFormula" "__init__") rfl)
  have okS : FnOk P w K mg base (L2.CX P w) 1 _ fdS ["self", "word"] _ := init_word DS ⟨rfl, rfl, rfl, by decide +kernel, rfl, by decide +kernel, by decide +kernel⟩ rfl rfl rfl rfl (He.free_ok X G (c.d.fact 28 (f := .free "ValueError") rfl)) (veB_ok k3)
  have bS : L2.Binds K fdS ["self", "word"] [] := DS.bindsN fun _ _ _ _ _ _ us hl => match us, hl with | [_, _], _ => rfl
  have bB : L2.Binds K fdB ["self"] [] := DB.bindsN fun _ _ _ _ _ _ us hl => match us, hl with | [_], _ => rfl
  have okB := init_none (P := P) (w := w) (base := base) (wd := "badformula") (b := "SheetError") DB ⟨rfl, rfl, rfl, by decide +kernel, rfl, by decide +kernel, by decide +kernel⟩ rfl rfl rfl (by decide +kernel) (He.glo_ok X G (c.d.fact 13 (f := .glo "SheetError") rfl)) r fc mS.kp okS bS
  refine ⟨_, _, fdB, _, 0, _, _, He.glo_ok X G (c.d.fact 14 (f := .glo "BadFormula") rfl), oexB_ok k1, fun f hf => ?_, mB.at_, eq_of_beq mB.fn, okB, bB, fun us fs e => ?_⟩
  · simp at hf
    subst hf
    exact He.noat_ok (c.d.fact 33 (f := .noat "BadFormula" "word") rfl)
  · have e2 : xmv "BadFormula" us = some fs := e
    unfold xmv at e2
    rw [if_pos rfl] at e2
    split at e2
    · cases e2
      refine ⟨rfl, by decide, fun F rho vs cs f u hl => ⟨.str "badformula", ?_, ?_⟩⟩
      · rw [List.lookup_cons] at hl ⊢
        split at hl
        · rfl
        · cases hl
      · rw [List.lookup_cons] at hl
        split at hl
        · cases hl
          exact .str _
        · cases hl
    · cases e2
theorem glb (X : K.In h) (G : h.Ns mainGlobals mg) (c : He.SaysT fa fn ts w K) (k : ck K = true) (base : Heap) : Glb xs hs N T P w K mg base where
  con := con_ok X G c k
  free := free_all X G c
  rse := fun x hx => by
    simp [xs] at hx
    subst hx
    exact rse_ok X G c k base
  han := fun x hx => by
    simp [hs] at hx
    subst hx
    exact ⟨_, He.glo_ok X G (c.d.fact 14 (f := .glo "BadFormula") rfl)⟩
  sub := fun e x b hb => by
    have hb2 : subv e x = some b := hb
    unfold subv at hb2
    split at hb2
    · rename_i q
      obtain ⟨rfl, rfl⟩ := q
      cases hb2
      exact ⟨_, _, He.glo_ok X G (c.d.fact 14 (f := .glo "BadFormula") rfl), He.glo_ok X G (c.d.fact 14 (f := .glo "BadFormula") rfl), He.exm_ok (c.d.fact 32 (f := .exm "BadFormula" "BadFormula" true) rfl)⟩
    · cases hb2
  fns := fns_ok X G c
  has := fun f hf => Option.isSome_iff_exists.mp hf
end
end Far.K03

set_option Elab.async false
set_option linter.all false
set_option maxRecDepth 100000
set_option maxHeartbeats 4000000
namespace Far.K03
open PySem PySem.Spec PyProof.Rows L2 Far.L
theorem eF : EForm N T := { pullT := rfl, pullH := rfl, ofT := rfl, ofH := rfl, timesT := rfl, timesH := rfl, termT := rfl, termH := rfl, formT := rfl, formH := rfl }
theorem eN : ENeed N T := { numT := rfl, numH := rfl, istT := rfl, istH := rfl, gRow := rfl, gTimes := rfl, gCounts := rfl, needT := rfl, needH := rfl, gTerms := rfl, xmB := rfl }
theorem eL : ELike N T := { likeT := rfl, likeH := rfl }
theorem goodT : T "_law_good" = some f_law_good := rfl
theorem goodH : N.has "_law_good" = true := rfl
theorem bentT : T "_law_bent" = some f_law_bent := rfl
theorem bentH : N.has "_law_bent" = true := rfl
theorem nodupC : cKeys.Nodup := by decide +kernel
theorem dct_notin (S : Sto) (w : Str) : cop .notin S (.str w) (.dct cKeys cVals) = some (!(dctGet cKeys cVals (.inr w)).isSome) := rfl
theorem dct_item (S : Sto) (w : Str) : item S (.dct cKeys cVals) (.str w) = dctGet cKeys cVals (.inr w) := rfl
theorem dct_int (S : Sto) (i : Int) : cop .notin S (.int i) (.dct cKeys cVals) = some true := by
  show some (!(dctGet cKeys cVals (.inl i)).isSome) = _
  simp [cKeys, cVals, dctGet]
theorem lit : evS N (callN N T k) (headS f_law_good.body) [.val a, .val b, .no, .no] S = .nx [.val a, .val b, .val (.dct cKeys cVals), .no] S := by
  have h : ([.inr "one", .inr "look", .inr "at", .inr "sum", .inr "total", .inr "gone"] : List Key).Nodup := nodupC
  simp only [f_law_good, headS, evS_asg, evE_dct, evEs_cons, evEs_nil, evE_c, R.bind_ok, R.then_ok]
  rw [if_pos ⟨rfl, by decide, h⟩]
  simp [cKeys, cVals]
def absI (i : Int) : Int := if i < 0 then -i else i
theorem abs_int (S : Sto) (i : Int) : fnc .abs S [.int i] = some (.val (.int (absI i))) := rfl
theorem num_abs (i : Int) : numB (.int i) (-999) 999 = !decide (999 < absI i) := by
  unfold numB absI
  rw [Bool.eq_iff_iff]
  simp
  split <;> omega
theorem num_abs2 (i : Int) : numB (.int i) (-1) 1 = decide (absI i < 2) := by
  unfold numB absI
  rw [Bool.eq_iff_iff]
  simp
  split <;> omega
section
variable {k : Nat} (hk : 1 ≤ k) {names : List U} (hn : ∀ w ∈ names, flatU w = true) (S : Sto)
theorem good_start {ws : List U} (hk : 1 ≤ k) : callN N T k "_law_good" [.tup ws, .lst names] S = endU (evSs N (callN N T (k - 1)) (tailS f_law_good.body) [.val (.tup ws), .val (.lst names), .val (.dct cKeys cVals), .no] S) := by
  rw [call_eq hk goodT rfl]
  show endU ((evS N (callN N T (k - 1)) (headS f_law_good.body) [.val (.tup ws), .val (.lst names), .no, .no] S).seq fun σ1 S1 => evSs N (callN N T (k - 1)) (tailS f_law_good.body) σ1 S1) = _
  rw [lit]
  rfl
include hk
theorem g_nil : callN N T k "_law_good" [.tup [], .lst names] S = .ok (.bl false) S := by
  rw [good_start S hk]
  simp [f_law_good, tailS, len_tup, endU]
theorem g_int {i : Int} {ws : List U} : callN N T k "_law_good" [.tup (.int i :: ws), .lst names] S = .ok (.bl false) S := by
  rw [good_start S hk]
  have h2 : ¬ ((ws.length : Int) + 1) = 0 := by omega
  simp [f_law_good, tailS, len_tup, endU, h2, item_tup0, dct_int]
theorem g_none {w : Str} {ws : List U} (hd : dctGet cKeys cVals (.inr w) = none) : callN N T k "_law_good" [.tup (.str w :: ws), .lst names] S = .ok (.bl false) S := by
  rw [good_start S hk]
  have h2 : ¬ ((ws.length : Int) + 1) = 0 := by omega
  simp [f_law_good, tailS, len_tup, endU, h2, item_tup0, dct_notin, hd]
theorem g_len {w : Str} {ws : List U} {m : Int} (hd : dctGet cKeys cVals (.inr w) = some (.int m)) (hm : ¬ (ws.length : Int) + 1 = m) : callN N T k "_law_good" [.tup (.str w :: ws), .lst names] S = .ok (.bl false) S := by
  rw [good_start S hk]
  have h2 : ¬ ((ws.length : Int) + 1) = 0 := by omega
  simp [f_law_good, tailS, len_tup, endU, h2, item_tup0, dct_notin, dct_item, hd, hm]
theorem g_two {w : Str} {a : U} (ha : flatU a = true) (hd : dctGet cKeys cVals (.inr w) = some (.int 2)) : callN N T k "_law_good" [.tup [.str w, a], .lst names] S = .ok (.bl (numB a (-999) 999)) S := by
  rw [good_start S hk]
  have e1 : item S (.tup [.str w, a]) (.int 1) = some a := rfl
  cases a with
  | int i =>
    rw [num_abs]
    by_cases h : 999 < absI i <;> simp [f_law_good, tailS, len_tup, endU, item_tup0, dct_notin, dct_item, hd, e1, tyIs, truth, abs_int, h]
  | str x => simp [f_law_good, tailS, len_tup, endU, item_tup0, dct_notin, dct_item, hd, e1, tyIs, truth, numB]
  | _ => cases ha
include hn
/-- past the first tests -/
theorem g_look {a nm r : U} (ha : flatU a = true) (hnm : flatU nm = true) (hr : flatU r = true) : callN N T k "_law_good" [.tup [.str "look", a, nm, r], .lst names] S = .ok (.bl (goodB names [.str "look", a, nm, r])) S := by
  rw [good_start S hk]
  have e1 : item S (.tup [.str "look", a, nm, r]) (.int 1) = some a := rfl
  have e2 : item S (.tup [.str "look", a, nm, r]) (.int 2) = some nm := rfl
  have e3 : item S (.tup [.str "look", a, nm, r]) (.int 3) = some r := rfl
  have e4 : cut S (.tup [.str "look", a, nm, r]) (some 3) none = some (.val (.tup [r])) := rfl
  have em := notin_seq (.inl rfl) hnm hn S
  have ea : ∀ b : Bool, fnc .all S [.lst [.bl b]] = some (.val (.bl b)) := fun b => by cases b <;> rfl
  cases a with
  | int i =>
    by_cases h : 999 < absI i
    · simp [f_law_good, tailS, len_tup, endU, item_tup0, dct_notin, dct_item, c_look, e1, tyIs, truth, abs_int, h, goodB, num_abs]
    · have hi : -999 ≤ i ∧ i ≤ 999 := by unfold absI at h; split at h <;> omega
      cases hm : memB nm names
      · simp [f_law_good, tailS, len_tup, endU, item_tup0, dct_notin, dct_item, c_look, e1, e2, tyIs, truth, abs_int, h, goodB, num_abs, em, hm]
      · cases r with
        | int j => simp [f_law_good, tailS, len_tup, endU, item_tup0, dct_notin, dct_item, c_look, e1, e2, e3, e4, tyIs, truth, abs_int, h, goodB, num_abs, num_abs2, em, hm, evLc, lcTurn, wipeS, ea, eq_look_look, big, Ne.symm ne1]
        | str y => simp [f_law_good, tailS, len_tup, endU, item_tup0, dct_notin, dct_item, c_look, e1, e2, e3, e4, tyIs, truth, abs_int, h, goodB, num_abs, em, hm, evLc, lcTurn, wipeS, ea, eq_look_look, big, Ne.symm ne1, numB]
        | _ => cases hr
  | str x => simp [f_law_good, tailS, len_tup, endU, item_tup0, dct_notin, dct_item, c_look, e1, tyIs, truth, numB, goodB]
  | _ => cases ha
theorem g_at {a nm r : U} (ha : flatU a = true) (hnm : flatU nm = true) (hr : flatU r = true) : callN N T k "_law_good" [.tup [.str "at", a, nm, r], .lst names] S = .ok (.bl (goodB names [.str "at", a, nm, r])) S := by
  rw [good_start S hk]
  have e1 : item S (.tup [.str "at", a, nm, r]) (.int 1) = some a := rfl
  have e2 : item S (.tup [.str "at", a, nm, r]) (.int 2) = some nm := rfl
  have e3 : item S (.tup [.str "at", a, nm, r]) (.int 3) = some r := rfl
  have e4 : cut S (.tup [.str "at", a, nm, r]) (some 3) none = some (.val (.tup [r])) := rfl
  have em := notin_seq (.inl rfl) hnm hn S
  have ea : ∀ b : Bool, fnc .all S [.lst [.bl b]] = some (.val (.bl b)) := fun b => by cases b <;> rfl
  cases a with
  | int i =>
    by_cases h : 999 < absI i
    · simp [f_law_good, tailS, len_tup, endU, item_tup0, dct_notin, dct_item, c_at, e1, tyIs, truth, abs_int, h, goodB, num_abs]
    · have hi : -999 ≤ i ∧ i ≤ 999 := by unfold absI at h; split at h <;> omega
      cases hm : memB nm names
      · simp [f_law_good, tailS, len_tup, endU, item_tup0, dct_notin, dct_item, c_at, e1, e2, tyIs, truth, abs_int, h, goodB, num_abs, em, hm]
      · cases r with
        | int j =>
          by_cases h1 : 0 ≤ j
          · by_cases h2 : j ≤ 1000000000000000 <;> simp [f_law_good, tailS, len_tup, endU, item_tup0, dct_notin, dct_item, c_at, e1, e2, e3, e4, tyIs, truth, abs_int, h, goodB, num_abs, em, hm, evLc, lcTurn, wipeS, ea, eq_at_look, eq_at_at, big, ne1, numB, h1, h2, hi.1, hi.2, bop_pow_int]
          · simp [f_law_good, tailS, len_tup, endU, item_tup0, dct_notin, dct_item, c_at, e1, e2, e3, e4, tyIs, truth, abs_int, h, goodB, num_abs, em, hm, evLc, lcTurn, wipeS, ea, eq_at_look, eq_at_at, big, ne1, numB, h1, bop_pow_int]
        | str y => simp [f_law_good, tailS, len_tup, endU, item_tup0, dct_notin, dct_item, c_at, e1, e2, e3, e4, tyIs, truth, abs_int, h, goodB, num_abs, em, hm, evLc, lcTurn, wipeS, ea, eq_at_look, big, ne1, numB]
        | _ => cases hr
  | str x => simp [f_law_good, tailS, len_tup, endU, item_tup0, dct_notin, dct_item, c_at, e1, tyIs, truth, numB, goodB]
  | _ => cases ha
theorem g_sum {a nm r t : U} (ha : flatU a = true) (hnm : flatU nm = true) (hr : flatU r = true) (ht : flatU t = true) : callN N T k "_law_good" [.tup [.str "sum", a, nm, r, t], .lst names] S = .ok (.bl (goodB names [.str "sum", a, nm, r, t])) S := by
  rw [good_start S hk]
  have e1 : item S (.tup [.str "sum", a, nm, r, t]) (.int 1) = some a := rfl
  have e2 : item S (.tup [.str "sum", a, nm, r, t]) (.int 2) = some nm := rfl
  have e3 : item S (.tup [.str "sum", a, nm, r, t]) (.int 3) = some r := rfl
  have e5 : item S (.tup [.str "sum", a, nm, r, t]) (.int 4) = some t := rfl
  have e4 : cut S (.tup [.str "sum", a, nm, r, t]) (some 3) none = some (.val (.tup [r, t])) := rfl
  have em := notin_seq (.inl rfl) hnm hn S
  have ea : ∀ b c : Bool, fnc .all S [.lst [.bl b, .bl c]] = some (.val (.bl (b && c))) := fun b c => by cases b <;> cases c <;> rfl
  cases a with
  | int i =>
    by_cases h : 999 < absI i
    · simp [f_law_good, tailS, len_tup, endU, item_tup0, dct_notin, dct_item, c_sum, e1, tyIs, truth, abs_int, h, goodB, num_abs]
    · have hi : -999 ≤ i ∧ i ≤ 999 := by unfold absI at h; split at h <;> omega
      cases hm : memB nm names
      · simp [f_law_good, tailS, len_tup, endU, item_tup0, dct_notin, dct_item, c_sum, e1, e2, tyIs, truth, abs_int, h, goodB, num_abs, em, hm]
      · cases r with
        | int j => cases t with
          | int l =>
            by_cases h1 : 0 ≤ j
            · by_cases h2 : j ≤ 1000000000000000
              · by_cases h3 : -1 ≤ l <;> simp [f_law_good, tailS, len_tup, endU, item_tup0, dct_notin, dct_item, c_sum, e1, e2, e3, e4, e5, tyIs, truth, abs_int, h, goodB, num_abs, em, hm, evLc, lcTurn, wipeS, ea, eq_sum_look, eq_sum_at, eq_sum_sum, big, Ne.symm ne6, numB, h1, h2, h3, hi.1, hi.2, bop_pow_int]
              · simp [f_law_good, tailS, len_tup, endU, item_tup0, dct_notin, dct_item, c_sum, e1, e2, e3, e4, e5, tyIs, truth, abs_int, h, goodB, num_abs, em, hm, evLc, lcTurn, wipeS, ea, eq_sum_look, eq_sum_at, eq_sum_sum, big, Ne.symm ne6, numB, h1, h2, hi.1, hi.2, bop_pow_int]
            · simp [f_law_good, tailS, len_tup, endU, item_tup0, dct_notin, dct_item, c_sum, e1, e2, e3, e4, e5, tyIs, truth, abs_int, h, goodB, num_abs, em, hm, evLc, lcTurn, wipeS, ea, eq_sum_look, eq_sum_at, eq_sum_sum, big, Ne.symm ne6, numB, h1, bop_pow_int]
          | str y => simp [f_law_good, tailS, len_tup, endU, item_tup0, dct_notin, dct_item, c_sum, e1, e2, e3, e4, e5, tyIs, truth, abs_int, h, goodB, num_abs, em, hm, evLc, lcTurn, wipeS, ea, eq_sum_look, big, Ne.symm ne6, numB]
          | _ => cases ht
        | str y => cases t with
          | int l => simp [f_law_good, tailS, len_tup, endU, item_tup0, dct_notin, dct_item, c_sum, e1, e2, e3, e4, e5, tyIs, truth, abs_int, h, goodB, num_abs, em, hm, evLc, lcTurn, wipeS, ea, eq_sum_look, big, Ne.symm ne6, numB]
          | str z => simp [f_law_good, tailS, len_tup, endU, item_tup0, dct_notin, dct_item, c_sum, e1, e2, e3, e4, e5, tyIs, truth, abs_int, h, goodB, num_abs, em, hm, evLc, lcTurn, wipeS, ea, eq_sum_look, big, Ne.symm ne6, numB]
          | _ => cases ht
        | _ => cases hr
  | str x => simp [f_law_good, tailS, len_tup, endU, item_tup0, dct_notin, dct_item, c_sum, e1, tyIs, truth, numB, goodB]
  | _ => cases ha
theorem g_total {a nm r t : U} (ha : flatU a = true) (hnm : flatU nm = true) (hr : flatU r = true) (ht : flatU t = true) : callN N T k "_law_good" [.tup [.str "total", a, nm, r, t], .lst names] S = .ok (.bl (goodB names [.str "total", a, nm, r, t])) S := by
  rw [good_start S hk]
  have e1 : item S (.tup [.str "total", a, nm, r, t]) (.int 1) = some a := rfl
  have e2 : item S (.tup [.str "total", a, nm, r, t]) (.int 2) = some nm := rfl
  have e3 : item S (.tup [.str "total", a, nm, r, t]) (.int 3) = some r := rfl
  have e5 : item S (.tup [.str "total", a, nm, r, t]) (.int 4) = some t := rfl
  have e4 : cut S (.tup [.str "total", a, nm, r, t]) (some 3) none = some (.val (.tup [r, t])) := rfl
  have em := notin_seq (.inl rfl) hnm hn S
  have ea : ∀ b c : Bool, fnc .all S [.lst [.bl b, .bl c]] = some (.val (.bl (b && c))) := fun b c => by cases b <;> cases c <;> rfl
  cases a with
  | int i =>
    by_cases h : 999 < absI i
    · simp [f_law_good, tailS, len_tup, endU, item_tup0, dct_notin, dct_item, c_total, e1, tyIs, truth, abs_int, h, goodB, num_abs]
    · have hi : -999 ≤ i ∧ i ≤ 999 := by unfold absI at h; split at h <;> omega
      cases hm : memB nm names
      · simp [f_law_good, tailS, len_tup, endU, item_tup0, dct_notin, dct_item, c_total, e1, e2, tyIs, truth, abs_int, h, goodB, num_abs, em, hm]
      · cases r with
        | int j => cases t with
          | int l =>
            by_cases h1 : 0 ≤ j
            · by_cases h2 : j ≤ 1000000000000000
              · by_cases h3 : -1 ≤ l <;> simp [f_law_good, tailS, len_tup, endU, item_tup0, dct_notin, dct_item, c_total, e1, e2, e3, e4, e5, tyIs, truth, abs_int, h, goodB, num_abs, em, hm, evLc, lcTurn, wipeS, ea, eq_total_look, eq_total_at, eq_total_sum, big, ne6, numB, h1, h2, h3, hi.1, hi.2, bop_pow_int]
              · simp [f_law_good, tailS, len_tup, endU, item_tup0, dct_notin, dct_item, c_total, e1, e2, e3, e4, e5, tyIs, truth, abs_int, h, goodB, num_abs, em, hm, evLc, lcTurn, wipeS, ea, eq_total_look, eq_total_at, eq_total_sum, big, ne6, numB, h1, h2, hi.1, hi.2, bop_pow_int]
            · simp [f_law_good, tailS, len_tup, endU, item_tup0, dct_notin, dct_item, c_total, e1, e2, e3, e4, e5, tyIs, truth, abs_int, h, goodB, num_abs, em, hm, evLc, lcTurn, wipeS, ea, eq_total_look, eq_total_at, eq_total_sum, big, ne6, numB, h1, bop_pow_int]
          | str y => simp [f_law_good, tailS, len_tup, endU, item_tup0, dct_notin, dct_item, c_total, e1, e2, e3, e4, e5, tyIs, truth, abs_int, h, goodB, num_abs, em, hm, evLc, lcTurn, wipeS, ea, eq_total_look, big, ne6, numB]
          | _ => cases ht
        | str y => cases t with
          | int l => simp [f_law_good, tailS, len_tup, endU, item_tup0, dct_notin, dct_item, c_total, e1, e2, e3, e4, e5, tyIs, truth, abs_int, h, goodB, num_abs, em, hm, evLc, lcTurn, wipeS, ea, eq_total_look, big, ne6, numB]
          | str z => simp [f_law_good, tailS, len_tup, endU, item_tup0, dct_notin, dct_item, c_total, e1, e2, e3, e4, e5, tyIs, truth, abs_int, h, goodB, num_abs, em, hm, evLc, lcTurn, wipeS, ea, eq_total_look, big, ne6, numB]
          | _ => cases ht
        | _ => cases hr
  | str x => simp [f_law_good, tailS, len_tup, endU, item_tup0, dct_notin, dct_item, c_total, e1, tyIs, truth, numB, goodB]
  | _ => cases ha
theorem good_ok {ws : List U} (hw : ∀ w ∈ ws, flatU w = true) : callN N T k "_law_good" [.tup ws, .lst names] S = .ok (.bl (goodB names ws)) S := by
  match ws, hw with
  | [], _ => rw [g_nil hk S]; rfl
  | [x], hw =>
    cases x with
    | int i => rw [g_int hk S]; rfl
    | str w =>
      rcases word_cases w with h | rfl | rfl | rfl | rfl | h
      · have hd : dctGet cKeys cVals (.inr w) = some (.int 2) := by
          rcases h with rfl | rfl
          · exact c_one
          · exact c_gone
        rw [g_len hk S hd (by simp)]; rfl
      · rw [g_len hk S c_look (by simp)]; rfl
      · rw [g_len hk S c_at (by simp)]; rfl
      · rw [g_len hk S c_sum (by simp)]; rfl
      · rw [g_len hk S c_total (by simp)]; rfl
      · rw [g_none hk S h]; rfl
    | _ => cases hw _ (List.mem_cons_self ..)
  | x :: a :: rest, hw =>
    have fx := hw x (by simp)
    have fa := hw a (by simp)
    cases x with
    | int i => rw [g_int hk S]; rfl
    | str w =>
      rcases word_cases w with h | rfl | rfl | rfl | rfl | h
      · have hd : dctGet cKeys cVals (.inr w) = some (.int 2) := by
          rcases h with rfl | rfl
          · exact c_one
          · exact c_gone
        match rest with
        | [] => rw [g_two hk S fa hd]; simp [goodB, h]
        | y :: ys =>
          have hm : (2 : Int) ≠ ((y :: ys).length : Int) + 1 + 1 := by simp; omega
          rw [g_len hk S hd (by simp; omega), good_len hd hm]
      · by_cases hm : (4 : Int) = (rest.length : Int) + 1 + 1
        · match rest, hm with
          | [nm, r], _ => exact g_look hk hn S fa (hw nm (by simp)) (hw r (by simp))
          | [], hm => simp at hm
          | [_], hm => simp at hm
          | _ :: _ :: _ :: _, hm => simp at hm; omega
        · rw [g_len hk S c_look (by simp; omega), good_len c_look hm]
      · by_cases hm : (4 : Int) = (rest.length : Int) + 1 + 1
        · match rest, hm with
          | [nm, r], _ => exact g_at hk hn S fa (hw nm (by simp)) (hw r (by simp))
          | [], hm => simp at hm
          | [_], hm => simp at hm
          | _ :: _ :: _ :: _, hm => simp at hm; omega
        · rw [g_len hk S c_at (by simp; omega), good_len c_at hm]
      · by_cases hm : (5 : Int) = (rest.length : Int) + 1 + 1
        · match rest, hm with
          | [nm, r, s], _ => exact g_sum hk hn S fa (hw nm (by simp)) (hw r (by simp)) (hw s (by simp))
          | [], hm => simp at hm
          | [_], hm => simp at hm
          | [_, _], hm => simp at hm
          | _ :: _ :: _ :: _ :: _, hm => simp at hm; omega
        · rw [g_len hk S c_sum (by simp; omega), good_len c_sum hm]
      · by_cases hm : (5 : Int) = (rest.length : Int) + 1 + 1
        · match rest, hm with
          | [nm, r, s], _ => exact g_total hk hn S fa (hw nm (by simp)) (hw r (by simp)) (hw s (by simp))
          | [], hm => simp at hm
          | [_], hm => simp at hm
          | [_, _], hm => simp at hm
          | _ :: _ :: _ :: _ :: _, hm => simp at hm; omega
        · rw [g_len hk S c_total (by simp; omega), good_len c_total hm]
      · rw [g_none hk S h, good_none h]
    | _ => cases fx
end
end Far.K03

set_option Elab.async false
set_option linter.all false
set_option maxRecDepth 100000
set_option maxHeartbeats 4000000
namespace Far.K03
open PySem PySem.Spec PyProof.Rows L2 Far.L
theorem cutL_mem {xs : List U} {lo hi : Option Int} {x : U} (h : x ∈ cutL xs lo hi) : x ∈ xs := List.mem_of_mem_drop (List.mem_of_mem_take h)
theorem cutL_len (xs : List U) (lo hi : Option Int) : (cutL xs lo hi).length ≤ xs.length := by
  unfold cutL
  rw [List.length_take, List.length_drop]
  omega
theorem cut_lo (xs : List U) (j : Int) (h : 0 ≤ j) : (cutL xs none (some j)).length ≤ j.toNat := by
  unfold cutL
  have e : HT.sIx xs.length 0 none = 0 := rfl
  have e2 : HT.sIx xs.length xs.length (some j) ≤ j.toNat := by
    unfold HT.sIx
    simp only
    rw [if_neg (by omega)]
    exact Nat.min_le_left _ _
  rw [e, List.length_take, List.length_drop]
  omega
theorem cut_hi (xs : List U) (j : Int) (h : 0 ≤ j) : (cutL xs (some j) none).length ≤ xs.length - j.toNat := by
  unfold cutL
  have e : HT.sIx xs.length xs.length none = xs.length := rfl
  have e2 : HT.sIx xs.length 0 (some j) = min j.toNat xs.length := by
    unfold HT.sIx
    simp only
    rw [if_neg (by omega)]
  rw [e, e2, List.length_take, List.length_drop]
  omega
theorem cut_tup (S : Sto) (us : List U) (lo hi : Option Int) : cut S (.tup us) lo hi = some (.val (.tup (cutL us lo hi))) := rfl
theorem flat_e : flatU (.str "") = true := by kernel_rfl
theorem flat_a : flatU (.str "a") = true := by kernel_rfl
theorem flat_b : flatU (.str "b") = true := by kernel_rfl
theorem flat_c : flatU (.str "c") = true := by kernel_rfl
theorem flat_d : flatU (.str "d") = true := by kernel_rfl
theorem bent_ok {k : Nat} (hk : 3 ≤ k) {o : SO} {R : Sto} (h : Bg o) {ws : List U} (hw : ∀ w ∈ ws, flatU w = true) (hl : ws.length ≤ 5) :
    ∃ vs o', callN N T k "_law_bent" [.ref 0, .tup ws] (o :: R) = .ok (.tup vs) (o' :: R) ∧ (∀ w ∈ vs, flatU w = true) ∧ vs.length ≤ 11 ∧ Bg o' := by
  obtain ⟨r, o1, e1, r0, r1, b1⟩ := pull_ok eF.toEPull (k := k - 1) (by omega) (R := R) h (m := (ws.length : Int) + 1) (by omega) (by omega)
  obtain ⟨u, o2, e2, m2, b2⟩ := of_ok eF.toEOf (k := k - 1) (by omega) (R := R) b1 (us := [.str "a", .str "d", .str "sum", .str "gone", .int 2, .int (-2), .int 1000, .int (-1), .int 1000000000000000, .int 1000000000000001, .str "", .int 0, .str "look"]) (by simp) (by simp)
  have fu : flatU u = true := by
    have f : ∀ w ∈ [U.str "a", .str "d", .str "sum", .str "gone", .int 2, .int (-2), .int 1000, .int (-1), .int 1000000000000000, .int 1000000000000001, .str "", .int 0, .str "look"], flatU w = true := by simp [flat_e, flat_a, flat_d]
    exact f u m2
  have l1 := cutL_len ws none (some r)
  have l2 := cutL_len ws (some (r + 1)) none
  obtain ⟨v, o3, e3, m3, b3⟩ := of_ok eF.toEOf (k := k - 1) (by omega) (R := R) b2 (us := [.tup (cutL ws none (some r) ++ [u] ++ cutL ws (some (r + 1)) none), .tup (cutL ws none (some r) ++ cutL ws (some (r + 1)) none), .tup (ws ++ [u])]) (by simp) (by simp)
  have hv : ∃ vs, v = .tup vs ∧ (∀ w ∈ vs, flatU w = true) ∧ vs.length ≤ 11 := by
    simp only [List.mem_cons, List.not_mem_nil, or_false] at m3
    rcases m3 with rfl | rfl | rfl
    · refine ⟨_, rfl, fun w hm => ?_, by simp; omega⟩
      simp only [List.mem_append, List.mem_cons, List.not_mem_nil, or_false] at hm
      rcases hm with (hm | rfl) | hm
      · exact hw w (cutL_mem hm)
      · exact fu
      · exact hw w (cutL_mem hm)
    · refine ⟨_, rfl, fun w hm => ?_, by simp; omega⟩
      rcases List.mem_append.mp hm with hm | hm
      · exact hw w (cutL_mem hm)
      · exact hw w (cutL_mem hm)
    · refine ⟨_, rfl, fun w hm => ?_, by simp; omega⟩
      rcases List.mem_append.mp hm with hm | hm
      · exact hw w hm
      · simp at hm
        subst hm
        exact fu
  obtain ⟨vs, rfl, fv, lv⟩ := hv
  refine ⟨vs, o3, ?_, fv, lv, b3⟩
  rw [call_eq (by omega) bentT rfl]
  have pH : N.has "_law_pull" = true := rfl
  have oH : N.has "_law_of" = true := rfl
  have a1 : ∀ S, bop .add S (.tup (cutL ws none (some r))) (.tup [u]) = some (.val (.tup (cutL ws none (some r) ++ [u]))) := fun S => bop_add_tup S _ _ (by simp [big]; omega)
  have a2 : ∀ S, bop .add S (.tup (cutL ws none (some r) ++ [u])) (.tup (cutL ws (some (r + 1)) none)) = some (.val (.tup (cutL ws none (some r) ++ [u] ++ cutL ws (some (r + 1)) none))) := fun S => bop_add_tup S _ _ (by simp [big]; omega)
  have a3 : ∀ S, bop .add S (.tup (cutL ws none (some r))) (.tup (cutL ws (some (r + 1)) none)) = some (.val (.tup (cutL ws none (some r) ++ cutL ws (some (r + 1)) none))) := fun S => bop_add_tup S _ _ (by simp [big]; omega)
  have a4 : ∀ S, bop .add S (.tup ws) (.tup [u]) = some (.val (.tup (ws ++ [u]))) := fun S => bop_add_tup S _ _ (by simp [big]; omega)
  simp only [List.append_assoc, List.cons_append, List.nil_append] at e3 a2
  simp [f_law_bent, startU, pH, oH, e1, e2, len_tup, bop_pow_int, cut_tup, a1, a2, a3, a4, e3, endU, big]
/-! ### a turn of the law -/
def lb : LSs := match f_law.body with
  | .cons _ (.cons (.loop _ _ b) _) => b
  | _ => .nil
/-- names: some of a, b, c -/
def Nm (names : List U) : Prop := names ≠ [] ∧ names.length < 100000 ∧ ∀ u ∈ names, flatU u = true
theorem t1 {o : SO} (h : Bg o) (s a b c d e f g : SL) : ∃ names o', Nm names ∧ evS N (callN N T 9) (headS lb) [s, .val (.ref 0), a, b, c, d, e, f, g] [o] = .nx [s, .val (.ref 0), a, .val (.lst names), c, d, e, f, g] [o'] ∧ Bg o' := by
  obtain ⟨r, o1, e1, r0, r1, b1⟩ := pull_ok eF.toEPull (k := 9) (by omega) (R := []) h (m := 3) (by omega) (by omega)
  have pH : N.has "_law_pull" = true := rfl
  have hr : r = 0 ∨ r = 1 ∨ r = 2 := by omega
  have fa := flat_a
  have fb := flat_b
  have fc := flat_c
  rcases hr with rfl | rfl | rfl
  · refine ⟨[.str "a"], o1, ⟨by simp, by simp, by simp [fa]⟩, ?_, b1⟩
    have ec : ∀ S, cut S (.lst [.str "a", .str "b", .str "c"]) none (some (1 + 0)) = some (.newL [.str "a"]) := fun S => rfl
    simp at ec
    simp [lb, f_law, headS, pH, e1, ec, big]
  · refine ⟨[.str "a", .str "b"], o1, ⟨by simp, by simp, by simp [fa, fb]⟩, ?_, b1⟩
    have ec : ∀ S, cut S (.lst [.str "a", .str "b", .str "c"]) none (some (1 + 1)) = some (.newL [.str "a", .str "b"]) := fun S => rfl
    simp at ec
    simp [lb, f_law, headS, pH, e1, ec, big]
  · refine ⟨[.str "a", .str "b", .str "c"], o1, ⟨by simp, by simp, by simp [fa, fb, fc]⟩, ?_, b1⟩
    have ec : ∀ S, cut S (.lst [.str "a", .str "b", .str "c"]) none (some (1 + 2)) = some (.newL [.str "a", .str "b", .str "c"]) := fun S => rfl
    simp at ec
    simp [lb, f_law, headS, pH, e1, ec, big]
/-- a formula of terms -/
def Fm (fs : List U) : Prop := fs.length ≤ 4 ∧ ∀ u ∈ fs, termU u = true ∧ ∀ ws, u = .tup ws → ws.length ≤ 11
theorem t2 {o : SO} (h : Bg o) {names : List U} (hn : Nm names) (s a c d e f g : SL) : ∃ fs o', Fm fs ∧ fs ≠ [] ∧ (∀ u ∈ fs, ∀ ws, u = .tup ws → ws.length ≤ 5) ∧ evS N (callN N T 9) (headS (tailS lb)) [s, .val (.ref 0), a, .val (.lst names), c, d, e, f, g] [o] = .nx [s, .val (.ref 0), a, .val (.lst names), .val (.tup fs), d, e, f, g] [o'] ∧ Bg o' := by
  obtain ⟨n1, n2, n3⟩ := hn
  obtain ⟨fs, o1, e1, p1, l1, b1⟩ := form_ok eF (k := 9) (by omega) (R := []) h n1 n2 n3 (near := 9) (by decide) (by decide)
  obtain ⟨ws, o2, e2, f2, l2, b2⟩ := term_ok eF.toETerm (k := 9) (by omega) (R := []) b1 n1 n2 n3 (near := 9) (by decide) (by decide)
  have fH : N.has "_law_formula" = true := rfl
  have tH : N.has "_law_term" = true := rfl
  have key : ∀ u ∈ fs ++ [U.tup ws], termU u = true ∧ ∀ vs, u = .tup vs → vs.length ≤ 5 := fun u hu => by
    rcases List.mem_append.mp hu with hu | hu
    · exact p1 u hu
    · simp at hu
      subst hu
      exact ⟨List.all_eq_true.mpr f2, fun vs e => by cases e; exact l2⟩
  refine ⟨fs ++ [.tup ws], o2, ⟨by simp; omega, fun u hu => ⟨(key u hu).1, fun vs e => Nat.le_trans ((key u hu).2 vs e) (by decide)⟩⟩, by simp, fun u hu => (key u hu).2, ?_, b2⟩
  have a1 : ∀ S, bop .add S (.tup fs) (.tup [.tup ws]) = some (.val (.tup (fs ++ [.tup ws]))) := fun S => bop_add_tup S _ _ (by simp [big]; omega)
  simp [lb, f_law, headS, tailS, fH, tH, e1, e2, a1, big]
theorem t3 {o : SO} (h : Bg o) {fs : List U} (hf : Fm fs) (hne : fs ≠ []) (h5 : ∀ u ∈ fs, ∀ ws, u = .tup ws → ws.length ≤ 5) (s a b d e f g : SL) : ∃ gs d' o', Fm gs ∧ evS N (callN N T 9) (headS (tailS (tailS lb))) [s, .val (.ref 0), a, b, .val (.tup fs), d, e, f, g] [o] = .nx [s, .val (.ref 0), a, b, .val (.tup gs), d', e, f, g] [o'] ∧ Bg o' := by
  obtain ⟨r, o1, e1, r0, r1, b1⟩ := pull_ok eF.toEPull (k := 9) (by omega) (R := []) h (m := 2) (by omega) (by omega)
  have pH : N.has "_law_pull" = true := rfl
  have bH : N.has "_law_bent" = true := rfl
  by_cases c : r = 0
  · have hp : 0 < fs.length := List.length_pos_iff.mpr hne
    obtain ⟨hl, hu⟩ := hf
    obtain ⟨j, o2, e2, j0, j1, b2⟩ := pull_ok eF.toEPull (k := 9) (by omega) (R := []) b1 (m := fs.length) (by omega) (by omega)
    have hj : j.toNat < fs.length := by omega
    have mem := List.getElem_mem hj
    obtain ⟨ws, ew, fw⟩ := termU_of (hu _ mem).1
    have lw := h5 _ mem ws ew
    obtain ⟨vs, o3, e3, fv, lv, b3⟩ := bent_ok (k := 9) (by omega) (R := []) b2 fw lw
    have l1 := cut_lo fs j j0
    have l2 := cut_hi fs (j + 1) (by omega)
    refine ⟨cutL fs none (some j) ++ [.tup vs] ++ cutL fs (some (j + 1)) none, .val (.int j), o3, ⟨by simp; omega, fun u hm => ?_⟩, ?_, b3⟩
    · simp only [List.mem_append, List.mem_cons, List.not_mem_nil, or_false] at hm
      rcases hm with (hm | rfl) | hm
      · exact hu u (cutL_mem hm)
      · exact ⟨List.all_eq_true.mpr fv, fun vs' e => by cases e; exact lv⟩
      · exact hu u (cutL_mem hm)
    · have ei : ∀ S, item S (.tup fs) (.int j) = some (.tup ws) := fun S => by rw [item_at S fs j j0 hj, ew]
      have a1 : ∀ S, bop .add S (.tup (cutL fs none (some j))) (.tup [.tup vs]) = some (.val (.tup (cutL fs none (some j) ++ [.tup vs]))) := fun S => bop_add_tup S _ _ (by simp [big]; omega)
      have a2 : ∀ S, bop .add S (.tup (cutL fs none (some j) ++ [.tup vs])) (.tup (cutL fs (some (j + 1)) none)) = some (.val (.tup (cutL fs none (some j) ++ [.tup vs] ++ cutL fs (some (j + 1)) none))) := fun S => bop_add_tup S _ _ (by simp [big]; omega)
      simp only [List.append_assoc] at a2
      simp [lb, f_law, headS, tailS, pH, bH, e1, c, e2, len_tup, cut_tup, ei, e3, a1, a2, big]
  · exact ⟨fs, d, o1, hf, by simp [lb, f_law, headS, tailS, pH, e1, c], b1⟩
theorem t4 {o : SO} {names fs : List U} (hn : Nm names) (hf : Fm fs) (s a d e f g : SL) : evS N (callN N T 9) (headS (tailS (tailS (tailS lb)))) [s, .val (.ref 0), a, .val (.lst names), .val (.tup fs), d, e, f, g] [o] = .nx [s, .val (.ref 0), a, .val (.lst names), .val (.tup fs), d, .val (.bl (fs.all (goodU names))), .val .non, g] [o] := by
  have gH : N.has "_law_good" = true := rfl
  have turn : ∀ u ∈ fs, lcTurn N (callN N T 9) [s, .val (.ref 0), a, .val (.lst names), .val (.tup fs), d, e, f, g] [8] (.nm 8) .non (.call "_law_good" (.cons (.v 8) (.cons (.v 3) .nil))) u [o] = .ok (some (.bl (goodU names u))) [o] := fun u hu => by
    obtain ⟨ws, rfl, hw⟩ := termU_of (hf.2 u hu).1
    have e := good_ok (k := 9) (by omega) hn.2.2 [o] hw
    simp [lcTurn, wipeS, gH, e, goodU]
  have lc := lc_map (fun u => .bl (goodU names u)) [o] fs [] turn
  have hb : fs.length ≤ big := by have := hf.1; simp [big]; omega
  simp [lb, f_law, headS, tailS, hb, lc, all_map, setVals]
theorem need_has : N.has "need_formula" = true := rfl
theorem t5 {o : SO} (h : Bg o) {names fs : List U} (hn : Nm names) (hf : Fm fs) (s a d g : SL) : ∃ o', evS N (callN N T 9) (headS (tailS (tailS (tailS (tailS lb))))) [s, .val (.ref 0), a, .val (.lst names), .val (.tup fs), d, .val (.bl (fs.all (goodU names))), .val .non, g] [o] =
    .nx [s, .val (.ref 0), a, .val (.lst names), .val (.tup fs), d, .val (.bl (fs.all (goodU names))), .val (if fs.all (goodU names) = true then .tup fs else .non), g] [o'] ∧ Bg o' := by
  obtain ⟨c, o1, e1, m1, b1⟩ := of_ok eF.toEOf (k := 9) (by omega) (R := []) h (us := [.lst names, .tup names]) (by simp) (by simp)
  have hc : isSeq c names := by
    simp at m1
    exact m1
  have oH : N.has "_law_of" = true := rfl
  have nd := need_ok eN (k := 9) (by omega) hc hn.2.2 [o1] (fun u hu => (hf.2 u hu).1) (Nat.le_trans hf.1 (by decide))
  have el : ∀ S, fnc .list S [.lst names] = some (.newL names) := fun S => rfl
  have et : ∀ S, fnc .tuple S [.lst names] = some (.val (.tup names)) := fun S => rfl
  have sb : subAny N.sub "BadFormula" ["BadFormula"] = some true := rfl
  refine ⟨o1, ?_, b1⟩
  cases hg : fs.all (goodU names) with
  | true =>
    rw [hg] at nd
    simp [lb, f_law, headS, tailS, oH, need_has, el, et, e1, nd, triOf, big]
  | false =>
    rw [hg] at nd
    simp [lb, f_law, headS, tailS, oH, need_has, el, et, e1, nd, triOf, sb, big]
theorem t6 {o : SO} {names fs : List U} (hf : Fm fs) (s a b d g : SL) : evS N (callN N T 9) (headS (tailS (tailS (tailS (tailS (tailS lb)))))) [s, .val (.ref 0), a, b, .val (.tup fs), d, .val (.bl (fs.all (goodU names))), .val (if fs.all (goodU names) = true then .tup fs else .non), g] [o] =
    .nx [s, .val (.ref 0), a, b, .val (.tup fs), d, .val (.bl (fs.all (goodU names))), .val (if fs.all (goodU names) = true then .tup fs else .non), g] [o] := by
  have lH : N.has "_law_like" = true := rfl
  cases hg : fs.all (goodU names) with
  | true =>
    have lk := like_form eL (k := 9) (by omega) (fs := fs) (fun u hu => ⟨(hf.2 u hu).1, fun ws e => Nat.lt_of_le_of_lt ((hf.2 u hu).2 ws e) (by decide)⟩) (Nat.lt_of_le_of_lt hf.1 (by decide)) [o]
    have n1 : ∀ S, cop .notN S (.tup fs) .non = some true := fun S => rfl
    simp [lb, f_law, headS, tailS, lH, lk, n1, ne_bl, truth]
  | false =>
    have n1 : ∀ S, cop .notN S .non .non = some false := fun S => rfl
    simp [lb, f_law, headS, tailS, n1, ne_bl, truth]
theorem lb_eq : lb = .cons (headS lb) (.cons (headS (tailS lb)) (.cons (headS (tailS (tailS lb))) (.cons (headS (tailS (tailS (tailS lb)))) (.cons (headS (tailS (tailS (tailS (tailS lb))))) (.cons (headS (tailS (tailS (tailS (tailS (tailS lb)))))) .nil))))) := rfl
theorem turn_ok {s : SL} (u : U) (σ : Slots) (S : Sto) (h : ∃ a b c d e f g o, σ = [s, .val (.ref 0), a, b, c, d, e, f, g] ∧ S = [o] ∧ Bg o) : ∃ σ' S', turnOf N (callN N T 9) (.nm 2) lb u σ S = .nx σ' S' ∧ ∃ a b c d e f g o, σ' = [s, .val (.ref 0), a, b, c, d, e, f, g] ∧ S' = [o] ∧ Bg o := by
  obtain ⟨a, b, c, d, e, f, g, o, rfl, rfl, h⟩ := h
  obtain ⟨names, o1, hn, e1, b1⟩ := t1 h s (.val u) b c d e f g
  obtain ⟨fs, o2, hf, hne, h5, e2, b2⟩ := t2 b1 hn s (.val u) c d e f g
  obtain ⟨gs, d', o3, hg, e3, b3⟩ := t3 b2 hf hne h5 s (.val u) (.val (.lst names)) d e f g
  have e4 := t4 (o := o3) hn hg s (.val u) d' e f g
  obtain ⟨o5, e5, b5⟩ := t5 b3 hn hg s (.val u) d' g
  have e6 := t6 (o := o5) (names := names) hg s (.val u) (.val (.lst names)) d' g
  refine ⟨_, _, ?_, .val u, .val (.lst names), .val (.tup gs), d', .val (.bl (gs.all (goodU names))), .val (if gs.all (goodU names) = true then .tup gs else .non), g, o5, rfl, rfl, b5⟩
  unfold turnOf
  rw [assign_nm]
  show evSs N (callN N T 9) lb [s, .val (.ref 0), .val u, b, c, d, e, f, g] [o] = _
  rw [lb_eq, evSs_cons, e1, RS.seq_nx, evSs_cons, e2, RS.seq_nx, evSs_cons, e3, RS.seq_nx, evSs_cons, e4, RS.seq_nx, evSs_cons, e5, RS.seq_nx, evSs_cons, e6, RS.seq_nx, evSs_nil]
theorem law_plain (ns : List Int) (hl : ns.length ≤ 63) : ∃ S', callN N T 10 "law" [.fz (ns.map U.int)] [] = .ok (.bl true) S' := by
  obtain ⟨o, e1, b1⟩ := bag_ok (N := N) (T := T) (k := 9) (by omega) rfl ns hl
  obtain ⟨σ', S', e2, a, b, c, d, e, f, g, o2, rfl, rfl, b2⟩ := for_inv (turn := turnOf N (callN N T 9) (.nm 2) lb) (fun σ S => ∃ a b c d e f g o, σ = [.val (.fz (ns.map U.int)), .val (.ref 0), a, b, c, d, e, f, g] ∧ S = [o] ∧ Bg o) (rangeU 0 8) [.val (.fz (ns.map U.int)), .val (.ref 0), .no, .no, .no, .no, .no, .no, .no] [o] (fun u _ σ S h => turn_ok u σ S h) ⟨_, _, _, _, _, _, _, _, rfl, rfl, b1⟩
  have bH : N.has "_law_bag" = true := rfl
  have nd := need_ok eN (k := 9) (by omega) (c := .lst []) (names := []) (.inl rfl) (by simp) [o2] (fs := []) (by simp) (by simp)
  have eq : cop .eq [o2] (.tup []) (.tup []) = some true := rfl
  refine ⟨[o2], ?_⟩
  rw [call_eq (by omega) (F := f_law) rfl rfl]
  have e3 : evSs N (callN N T 9) f_law.body (startU 9 [.fz (ns.map U.int)]) [] = (evFor (turnOf N (callN N T 9) (.nm 2) lb) (rangeU 0 8) [.val (.fz (ns.map U.int)), .val (.ref 0), .no, .no, .no, .no, .no, .no, .no] [o]).seq fun σ1 S1 => evSs N (callN N T 9) (tailS (tailS f_law.body)) σ1 S1 := by
    have el : f_law.body = .cons (headS f_law.body) (.cons (.loop (.nm 2) (.rng1 (.c (.int 8))) lb) (tailS (tailS f_law.body))) := rfl
    have eh : headS f_law.body = .asg (.nm 1) (.call "_law_bag" (.cons (.v 0) .nil)) := rfl
    rw [el, eh]
    simp [startU, bH, e1, tailS]
  show endU (evSs N (callN N T 9) f_law.body (startU 9 [.fz (ns.map U.int)]) []) = _
  rw [e3, e2]
  simp at nd
  simp [f_law, tailS, need_has, nd, eq, endU, big]
end Far.K03

set_option Elab.async false
set_option linter.all false
set_option maxRecDepth 100000
set_option maxHeartbeats 4000000
namespace Far.K03
open PySem PySem.Spec PyProof.Rows L2 Far.L
theorem law_f (P : Program) (w : World) (K : PySem.W.Frag) (h : Heap) (mg : Str → Option Value) (X : K.In h) (G : h.Ns mainGlobals mg) (c : He.SaysT fa fn ts w K) (k : ck K = true) (f : Addr) (hf : mg ("law" : Str) = some (.ref f)) :
    ∃ fd : FuncData, (∀ (s : Shared) (v : Value), BindsTo s fd ⟨[v], []⟩ [("_law_script", v)]) ∧ ∀ base : Heap, K.In base → base.Ns mainGlobals mg → FnOk P w K mg base (L2.CX P w) 13 f fd ["_law_script"] (spOf K w mg (callN N T 10) "law" ["_law_script"]) := by
  obtain ⟨fd, F⟩ := c.d.def_ 14 (d := d_f_law) rfl
  have b := FunD.bindsA (ps := ["_law_script"]) F fun _ _ _ _ _ _ us hl => match us, hl with | [_], _ => rfl
  have e := hf.symm.trans (He.glo_ok X G (c.d.fact 12 (f := .glo "law") rfl))
  cases e
  exact ⟨fd, fun s v => b s [v] rfl, fun base KB NB => call_step (glb (P := P) X G c k base) (calls_ok (glb (P := P) X G c k base) 9) (F := f_law) rfl F c_f_law.1 c_f_law.2⟩
end Far.K03
open PySem PySem.W PySem.Calls PyProof.Rows
theorem far_end (plain : ∀ ns : List Int, ns.length ≤ 63 → ∃ S', Far.callN Far.K03.N Far.K03.T 10 "law" [.fz (ns.map Far.U.int)] [] = .ok (.bl true) S') : PySem.Challenge.rw_farsheet_k03_formulas_looked_at.Holds := by
  w_on; o_law
  refine HandSHeadRun.head_any (r := OpenLaw.row PySem.Challenge.rw_farsheet_k03_formulas_looked_at) (q := view (OpenLaw.row PySem.Challenge.rw_farsheet_k03_formulas_looked_at).prog [21]) (H := Far.K03.hk) (ob := Far.K03.ob) (M := 6000) (loose := Far.K03.loose) (d := HandSHeadRun.topDef (OpenLaw.row PySem.Challenge.rw_farsheet_k03_formulas_looked_at).prog 21) (kwd := []) Far.K03.ob_eq
    (by kernel_rfl) (fun s => by kernel_rfl) Far.K03.run (by kernel_rfl) (by kernel_rfl) (by kernel_rfl) (by rfl) (by first | assumption | decide +kernel) (by decide +kernel) ⟨rfl, rfl, rfl, rfl, rfl, by decide +kernel⟩ ?hw ?hc
  case hw => w_witness2
  case hc =>
    refine Far.walk_far (l := PySem.Challenge.rw_farsheet_k03_formulas_looked_at) (n := 63) (k := 13) (x := "_law_script") rfl (by decide) (by kernel_rfl) ⟨rfl, by decide, by decide⟩ ?F
    intro w mg fa h Y G hmg0
    obtain ⟨K, KX, c, k⟩ := Y
    have hmg : mg ("law" : PySem.Str) = some (.ref fa) := by
      have e : (HandSHeadRun.topDef (OpenLaw.row PySem.Challenge.rw_farsheet_k03_formulas_looked_at).prog 21).name = ("law" : PySem.Str) := by kernel_rfl
      rw [← e]
      exact hmg0
    obtain ⟨fd, hb, hF⟩ := Far.K03.law_f (PySem.Challenge.rw_farsheet_k03_formulas_looked_at).prog w K h mg KX G c k fa hmg
    exact ⟨K, fd, _, KX, hb, fun H a ns hl _ hS => Far.sp_start hS (plain ns hl), hF⟩

set_option Elab.async false
set_option maxRecDepth 100000
theorem PySem.Challenge.cw_farsheet_k03_formulas_looked_at_holds : PySem.Challenge.rw_farsheet_k03_formulas_looked_at.Holds := by
  exact far_end Far.K03.law_plain
