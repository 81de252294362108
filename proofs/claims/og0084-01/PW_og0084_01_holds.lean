import PyProof.Rows.All
import Wide.All
import OpenK.AllK
import Wide.FinOn
import Lean
import PySem.Challenge.RW_og0084_01
set_option Elab.async false
set_option maxRecDepth 100000
set_option backward.match.sparseCases false
section
open PySem PySem.W PyProof.Rows
namespace Mine

/-- the built-in names that the fragment calls -/
inductive BI where
  | len | range | int | bytes | list | dict | tuple | abs | sum | enumerate
  deriving DecidableEq

/-- values of the small interpreter: what is never changed is plain data; what is changed lies in a store -/
inductive MV where
  | none | bool (b : Bool) | int (i : Int) | str (s : Str) | bytes (b : List UInt8)
  | tup (xs : List MV) | lst (xs : List MV)
  | loc (l : Nat) | ins (C l : Nat)
  | fn (a : Nat) | cls (a : Nat) | bi (b : BI)
  | lam (ps : Arguments) (body : Expr) (scope : Scope) (fre : List (Str × MV))
  | rng (a b c : Int)

inductive MO where
  | list (xs : List MV) | dict (es : List (Str × MV)) | inst (fs : List (Str × MV))

noncomputable abbrev St := List MO
noncomputable abbrev Lc := Str → Option MV
noncomputable def Lc.set (lc : Lc) (x : Str) (v : MV) : Lc := fun y => if y = x then some v else lc y
noncomputable def Lc.nil : Lc := fun _ => Option.none

structure ME where
  scope : Scope
  fre : Lc
  own : Str → Bool
  lam : Bool
noncomputable def ME.kind (me : ME) (x : Str) : Option NameKind := me.scope.names.lookup x

structure MDef where
  params : Arguments
  body : List Stmt
  scope : Scope
  lam : Bool

/-- what the text's top holds -/
structure MP where
  glob : Str → Option MV
  defs : Nat → Option MDef
  init : Nat → Option Nat
  meth : Nat → Str → Option (Option Nat)

inductive MF where
  | next | brk | cont | ret (v : MV)

inductive It where
  | tup (xs : List MV) (i : Nat) | lst (xs : List MV) (i : Nat) | loc (l i : Nat)
  | rng (a c : Int) (n : Nat) | byt (b : List UInt8) (i : Nat) | enm (k : Nat) (it : It)

structure Rec where
  ev : Expr → ME → Lc → St → Option (MV × St)
  tr : Expr → ME → Lc → St → Option (Bool × St)
  ex : Stmt → ME → Lc → St → Option (MF × Lc × St)
  call : MV → List MV → St → Option (MV × St)
  loop : Expr → It → List Stmt → ME → Lc → St → Option (MF × Lc × St)
  whil : Expr → List Stmt → ME → Lc → St → Option (MF × Lc × St)
  comp : Expr → Expr → List Expr → It → List MV → ME → Lc → St → Option (List MV × St)

section
variable (P : MP) (R : Rec)

noncomputable def constM : Const → Option MV
  | .none => some .none
  | .bool b => some (.bool b)
  | .int i => some (.int i)
  | .str s => some (.str s)
  | .bytes b => if b.length ≤ 1048576 then some (.bytes b) else Option.none
  | _ => Option.none

noncomputable def getName (me : ME) (lc : Lc) (x : Str) : Option MV :=
  match me.kind x with
  | some .local => lc x
  | some .cell => if me.own x then lc x else me.fre x
  | some .free => me.fre x
  | some .globalImplicit => P.glob x
  | _ => Option.none

noncomputable def setName (me : ME) (lc : Lc) (x : Str) (v : MV) : Option Lc :=
  if me.kind x = some .local ∨ (me.kind x = some .cell ∧ me.own x = true) then some (lc.set x v) else Option.none

/-- what an inner block sees of the outer one -/
noncomputable def capture (me : ME) (lc : Lc) (scope : Scope) : Lc := fun x =>
  if scope.names.lookup x = some .free then
    (match me.kind x with
    | some .cell => if me.own x then lc x else me.fre x
    | some .free => me.fre x
    | _ => Option.none)
  else Option.none
noncomputable def scopeOk (s : Scope) : Bool := s.kind == .function && !s.isGenerator && !s.isCoroutine && decide ((s.names.map (·.1)).Nodup) && (s.names.lookup ("__debug__" : Str)).isNone && (s.names.lookup ("__classdict__" : Str)).isNone
noncomputable def innerOk (me : ME) (s : Scope) : Bool := scopeOk s && s.names.all fun p => p.2 != .free || me.kind p.1 == some .cell || me.kind p.1 == some .free
noncomputable def captured (me : ME) (lc : Lc) (scope : Scope) : List (Str × MV) :=
  scope.names.filterMap fun x => if x.2 = .free then (capture me lc scope x.1).map (x.1, ·) else Option.none

noncomputable def relabelM (me : ME) (scope : Scope) : Scope :=
  { scope with names := scope.names.map fun (n, k) => if (k == .free && me.scope.kind == .function && me.kind n == some .cell) then (n, .cell) else (n, k) }

noncomputable def plainParams (ps : Arguments) : Bool := ps.posonlyargs.isEmpty && ps.vararg.isNone && ps.kwonlyargs.isEmpty && ps.kw_defaults.isEmpty && ps.kwarg.isNone && ps.defaults.isEmpty && decide ((ps.args.map (·.arg)).Nodup)

noncomputable def small (i : Int) : Bool := decide (-9223372036854775808 < i) && decide (i < 9223372036854775808)

theorem no_some {α : Type} {a : α} {p : Prop} (h : (Option.none : Option α) = some a) : p := nomatch h
theorem no_true' {p : Prop} (h : true = false) : p := nomatch h
theorem no_true {p : Prop} (h : false = true) : p := nomatch h
noncomputable def asIntM (v : MV) : Option Int := if h : v.ctorIdx = 2 then MV.int.elim (motive_1 := fun _ => Option Int) v h some else Option.none
theorem asIntM_eq {v : MV} {i : Int} (h : asIntM v = some i) : v = .int i := by
  by_cases c : v.ctorIdx = 2
  · exact MV.int.elim (motive_1 := fun v => asIntM v = some i → v = .int i) v c (fun j g => congrArg MV.int (Option.some.inj g)) h
  · exact no_some ((dif_neg c).symm.trans h)
noncomputable def asBytesM (v : MV) : Option (List UInt8) := if h : v.ctorIdx = 4 then MV.bytes.elim (motive_1 := fun _ => Option (List UInt8)) v h some else Option.none
theorem asBytesM_eq {v : MV} {i : (List UInt8)} (h : asBytesM v = some i) : v = .bytes i := by
  by_cases c : v.ctorIdx = 4
  · exact MV.bytes.elim (motive_1 := fun v => asBytesM v = some i → v = .bytes i) v c (fun j g => congrArg MV.bytes (Option.some.inj g)) h
  · exact no_some ((dif_neg c).symm.trans h)
noncomputable def asLstM (v : MV) : Option (List MV) := if h : v.ctorIdx = 6 then MV.lst.elim (motive_1 := fun _ => Option (List MV)) v h some else Option.none
theorem asLstM_eq {v : MV} {i : (List MV)} (h : asLstM v = some i) : v = .lst i := by
  by_cases c : v.ctorIdx = 6
  · exact MV.lst.elim (motive_1 := fun v => asLstM v = some i → v = .lst i) v c (fun j g => congrArg MV.lst (Option.some.inj g)) h
  · exact no_some ((dif_neg c).symm.trans h)
noncomputable def asStrM (v : MV) : Option Str := if h : v.ctorIdx = 3 then MV.str.elim (motive_1 := fun _ => Option Str) v h some else Option.none
theorem asStrM_eq {v : MV} {i : Str} (h : asStrM v = some i) : v = .str i := by
  by_cases c : v.ctorIdx = 3
  · exact MV.str.elim (motive_1 := fun v => asStrM v = some i → v = .str i) v c (fun j g => congrArg MV.str (Option.some.inj g)) h
  · exact no_some ((dif_neg c).symm.trans h)
noncomputable def asLocM (v : MV) : Option Nat := if h : v.ctorIdx = 7 then MV.loc.elim (motive_1 := fun _ => Option Nat) v h some else Option.none
theorem asLocM_eq {v : MV} {i : Nat} (h : asLocM v = some i) : v = .loc i := by
  by_cases c : v.ctorIdx = 7
  · exact MV.loc.elim (motive_1 := fun v => asLocM v = some i → v = .loc i) v c (fun j g => congrArg MV.loc (Option.some.inj g)) h
  · exact no_some ((dif_neg c).symm.trans h)
noncomputable def asBoolM (v : MV) : Option Bool := if h : v.ctorIdx = 1 then MV.bool.elim (motive_1 := fun _ => Option Bool) v h some else Option.none
theorem asBoolM_eq {v : MV} {i : Bool} (h : asBoolM v = some i) : v = .bool i := by
  by_cases c : v.ctorIdx = 1
  · exact MV.bool.elim (motive_1 := fun v => asBoolM v = some i → v = .bool i) v c (fun j g => congrArg MV.bool (Option.some.inj g)) h
  · exact no_some ((dif_neg c).symm.trans h)
/-- what lies at a place -/
noncomputable def listO : MO → Option (List MV)
  | .list xs => some xs
  | .dict _ => Option.none
  | .inst _ => Option.none
noncomputable def dictO : MO → Option (List (Str × MV))
  | .list _ => Option.none
  | .dict es => some es
  | .inst _ => Option.none
noncomputable def instO : MO → Option (List (Str × MV))
  | .list _ => Option.none
  | .dict _ => Option.none
  | .inst fs => some fs
noncomputable def listAt (st : St) (l : Nat) : Option (List MV) := (st[l]?).bind listO
noncomputable def dictAt (st : St) (l : Nat) : Option (List (Str × MV)) := (st[l]?).bind dictO
noncomputable def instAt (st : St) (l : Nat) : Option (List (Str × MV)) := (st[l]?).bind instO
theorem listAt_eq {st : St} {l : Nat} {xs : List MV} (h : listAt st l = some xs) : st[l]? = some (.list xs) := by
  obtain ⟨o, e, g⟩ := Option.bind_eq_some_iff.mp h
  induction o using MO.casesOn with
  | list ys => rw [e, Option.some.inj g]
  | _ => exact no_some g
theorem dictAt_eq {st : St} {l : Nat} {xs : List (Str × MV)} (h : dictAt st l = some xs) : st[l]? = some (.dict xs) := by
  obtain ⟨o, e, g⟩ := Option.bind_eq_some_iff.mp h
  induction o using MO.casesOn with
  | dict ys => rw [e, Option.some.inj g]
  | _ => exact no_some g
theorem instAt_eq {st : St} {l : Nat} {xs : List (Str × MV)} (h : instAt st l = some xs) : st[l]? = some (.inst xs) := by
  obtain ⟨o, e, g⟩ := Option.bind_eq_some_iff.mp h
  induction o using MO.casesOn with
  | inst ys => rw [e, Option.some.inj g]
  | _ => exact no_some g
theorem listAt_of {st : St} {l : Nat} {xs : List MV} (h : st[l]? = some (.list xs)) : listAt st l = some xs := by unfold listAt; rw [h]; rfl
theorem dictAt_of {st : St} {l : Nat} {xs : List (Str × MV)} (h : st[l]? = some (.dict xs)) : dictAt st l = some xs := by unfold dictAt; rw [h]; rfl
theorem instAt_of {st : St} {l : Nat} {xs : List (Str × MV)} (h : st[l]? = some (.inst xs)) : instAt st l = some xs := by unfold instAt; rw [h]; rfl
noncomputable def one : List MV → Option MV
  | [] => Option.none
  | [x] => some x
  | _ :: _ :: _ => Option.none
theorem one_eq {xs : List MV} {x : MV} (h : one xs = some x) : xs = [x] := by
  induction xs using List.casesOn with
  | nil => exact no_some h
  | cons y r => induction r using List.casesOn with
    | nil => rw [Option.some.inj h]
    | cons => exact no_some h
noncomputable def addM (a b : MV) (st : St) : Option (MV × St) :=
  match a with
  | .int i => (asIntM b).bind fun j => some (.int (i + j), st)
  | .bytes x => (asBytesM b).bind fun y => if x.length + y.length ≤ 1048576 then some (.bytes (x ++ y), st) else Option.none
  | .lst xs => (asLstM b).bind fun ys => if xs.length + ys.length ≤ 1048576 then some (.lst (xs ++ ys), st) else Option.none
  | _ => Option.none
noncomputable def mulM (a b : MV) (st : St) : Option (MV × St) :=
  match a with
  | .int i => (asIntM b).bind fun j => if small i || small j then some (.int (i * j), st) else Option.none
  | .bytes x => (asIntM b).bind fun n => if x.length = 1 && decide (0 ≤ n) && decide (n ≤ 1048576) then some (.bytes ((List.replicate n.toNat x).flatten), st) else Option.none
  | _ => Option.none
noncomputable def bop (op : Operator) (a b : MV) (st : St) : Option (MV × St) :=
  match op with
  | .Add => addM a b st
  | .Sub => (asIntM a).bind fun i => (asIntM b).bind fun j => some (.int (i - j), st)
  | .Mult => mulM a b st
  | .Mod => (asIntM a).bind fun i => (asIntM b).bind fun j => if j = 0 then Option.none else some (.int (i.fmod j), st)
  | .FloorDiv => (asIntM a).bind fun i => (asIntM b).bind fun j => if 0 < j && decide (j < 1073741824) then some (.int (i.fdiv j), st) else Option.none
  | .Pow => (asIntM a).bind fun i => (asIntM b).bind fun j => if 0 ≤ j && decide (j < 64) && small i then some (.int (i ^ j.toNat), st) else Option.none
  | _ => Option.none

/-- two dicts of texts to ints or bytes -/
noncomputable def deqV (v u : MV) (r : Option Bool) : Option Bool :=
  match v with
  | .int i => (asIntM u).bind fun j => r.map fun b => decide (i = j) && b
  | .bytes i => (asBytesM u).bind fun j => r.map fun b => decide (i = j) && b
  | _ => Option.none
noncomputable def deqs : List (Str × MV) → List (Str × MV) → Option Bool
  | [], _ => some true
  | p :: r, es => match es.lookup p.1 with
    | Option.none => some false
    | some u => deqV p.2 u (deqs r es)
noncomputable def deq (a b : List (Str × MV)) : Option Bool := if a.length = b.length then deqs a b else some false

noncomputable def allStr : List MV → Option (List Str)
  | [] => some []
  | x :: r => (asStrM x).bind fun s => (allStr r).map (s :: ·)
noncomputable def allInt : List MV → Option (List Int)
  | [] => some []
  | x :: r => (asIntM x).bind fun s => (allInt r).map (s :: ·)

noncomputable def leq (a b : List MV) : Option Bool := if a.length = b.length then (if a.length = 0 then some true else Option.none) else some false

noncomputable def eqM (a b : MV) (st : St) : Option Bool :=
  match a with
  | .int i => (asIntM b).bind fun j => some (decide (i = j))
  | .str i => (asStrM b).bind fun j => some (decide (i = j))
  | .bytes i => (asBytesM b).bind fun j => some (decide (i = j))
  | .lst xs => (asLocM b).bind fun l => (listAt st l).bind fun ys => leq xs ys
  | .loc k => (asLocM b).bind fun l => (dictAt st k).bind fun x => (dictAt st l).bind fun y => deq x y
  | _ => Option.none

noncomputable def isNoneM (v : MV) : Bool := v.ctorIdx == 0
theorem isNoneM_eq {v : MV} (h : isNoneM v = true) : v = .none := MV.none.elim (motive_1 := fun v => v = .none) v (eq_of_beq h) rfl
noncomputable def int2 (a b : MV) (f : Int → Int → Bool) : Option Bool := (asIntM a).bind fun i => (asIntM b).bind fun j => some (f i j)
noncomputable def inM (a b : MV) : Option Bool := (asIntM a).bind fun i => (asBytesM b).bind fun c => if 0 ≤ i ∧ i < 256 then some (c.contains (UInt8.ofNat i.toNat)) else Option.none
noncomputable def notinM (a : MV) (xs : List MV) : Option Bool :=
  match a with
  | .str s => (allStr xs).bind fun l => some (!l.contains s)
  | .int i => (allInt xs).bind fun l => some (!l.contains i)
  | _ => Option.none
noncomputable def cmp (op : CmpOp) (a b : MV) (st : St) : Option Bool :=
  match op with
  | .Lt => int2 a b fun i j => decide (i < j)
  | .LtE => int2 a b fun i j => decide (i ≤ j)
  | .Gt => int2 a b fun i j => decide (j < i)
  | .GtE => int2 a b fun i j => decide (j ≤ i)
  | .Eq => eqM a b st
  | .NotEq => (eqM a b st).map (!·)
  | .Is => if isNoneM b then some (isNoneM a) else Option.none
  | .IsNot => if isNoneM b then some (!isNoneM a) else Option.none
  | .In => inM a b
  | .NotIn => (asLstM b).bind fun xs => notinM a xs

noncomputable def idxM (xs : List MV) (i : Int) : Option MV := if 0 ≤ i then xs[i.toNat]? else Option.none

noncomputable def locItem (i : MV) (l : Nat) (st : St) : Option MV :=
  match i with
  | .int i => (listAt st l).bind fun xs => idxM xs i
  | .str k => (dictAt st l).bind fun es => es.lookup k
  | _ => Option.none
noncomputable def getItemM (o i : MV) (st : St) : Option MV :=
  match o with
  | .tup xs => (asIntM i).bind fun i => idxM xs i
  | .lst xs => (asIntM i).bind fun i => idxM xs i
  | .bytes b => (asIntM i).bind fun i => if 0 ≤ i then (b[i.toNat]?).map fun u => .int u.toNat else Option.none
  | .loc l => locItem i l st
  | _ => Option.none

noncomputable def dput : List (Str × MV) → Str → MV → List (Str × MV)
  | [], k, v => [(k, v)]
  | (k', v') :: r, k, v => if k' = k then (k', v) :: r else (k', v') :: dput r k v

noncomputable def locPut (i v : MV) (l : Nat) (st : St) : Option St :=
  match i with
  | .int i => (listAt st l).bind fun xs => if 0 ≤ i ∧ i.toNat < xs.length then some (st.set l (.list (xs.set i.toNat v))) else Option.none
  | .str k => (dictAt st l).bind fun es => if (es.lookup k).isSome then some (st.set l (.dict (dput es k v))) else Option.none
  | _ => Option.none
noncomputable def setItemM (o i v : MV) (st : St) : Option St := (asLocM o).bind fun l => locPut i v l st

noncomputable def cut {α : Type} (xs : List α) (lo hi : Option Int) : Option (List α) :=
  match lo, hi with
  | Option.none, Option.none => Option.none
  | some a, Option.none => if 0 ≤ a then some (xs.drop a.toNat) else Option.none
  | Option.none, some b => if 0 ≤ b then some (xs.take b.toNat) else Option.none
  | some a, some b => if 0 ≤ a ∧ 0 ≤ b then some ((xs.take b.toNat).drop a.toNat) else Option.none

noncomputable def sliceM (o : MV) (lo hi : Option Int) : Option MV :=
  match o with
  | .bytes b => (cut b lo hi).map .bytes
  | .lst xs => (cut xs lo hi).map .lst
  | _ => Option.none

noncomputable def rangeLen (a b c : Int) : Nat := if c = 1 then (b - a).toNat else if c = -1 then (a - b).toNat else 0
noncomputable def rangeInts (a c : Int) : Nat → List Int
  | 0 => []
  | n + 1 => a :: rangeInts (a + c) c n
noncomputable def smallR (a b : Int) : Bool := decide (-1048576 ≤ a) && decide (a ≤ 1048576) && decide (-1048576 ≤ b) && decide (b ≤ 1048576)

noncomputable def itOf (v : MV) (st : St) : Option It :=
  match v with
  | .tup xs => some (.tup xs 0)
  | .lst xs => some (.lst xs 0)
  | .loc l => (listAt st l).bind fun _ => some (.loc l 0)
  | .rng a b c => if smallR a b && (decide (c = 1) || decide (c = -1)) then some (.rng a c (rangeLen a b c)) else Option.none
  | .bytes b => some (.byt b 0)
  | _ => Option.none

noncomputable def nextM (it : It) (st : St) : Option (Option (MV × It)) :=
  match it with
  | .tup xs i => some ((xs[i]?).map fun v => (v, .tup xs (i + 1)))
  | .lst xs i => some ((xs[i]?).map fun v => (v, .lst xs (i + 1)))
  | .loc l i => (listAt st l).bind fun xs => some ((xs[i]?).map fun v => (v, .loc l (i + 1)))
  | .rng _ _ 0 => some Option.none
  | .rng a c (n + 1) => some (some (.int a, .rng (a + c) c n))
  | .byt b i => some ((b[i]?).map fun v => (.int v.toNat, .byt b (i + 1)))
  | .enm k it => (nextM it st).map fun r => r.map fun p => (.tup [.int k, p.1], .enm (k + 1) p.2)

noncomputable def bytesOf : List MV → Option (List UInt8)
  | [] => some []
  | x :: r => (asIntM x).bind fun i => if 0 ≤ i ∧ i < 256 then (bytesOf r).map (UInt8.ofNat i.toNat :: ·) else Option.none

noncomputable def splitKinds (s sep : Str) : Option (List Str) :=
  if s = "ALL LEADING FIRST CHARACTERS" ∧ sep = " " then some ["ALL", "LEADING", "FIRST", "CHARACTERS"] else Option.none

noncomputable def boolInt : Bool → Int
  | true => 1
  | false => 0

noncomputable def lenM (x : MV) (st : St) : Option Nat :=
  match x with
  | .bytes b => some b.length
  | .tup xs => some xs.length
  | .lst xs => some xs.length
  | .loc l => (listAt st l).map List.length
  | _ => Option.none
noncomputable def rangeM (args : List MV) : Option MV :=
  match args with
  | [] => Option.none
  | [x] => (asIntM x).bind fun b => if smallR 0 b = true then some (.rng 0 b 1) else Option.none
  | [x, y] => (asIntM x).bind fun a => (asIntM y).bind fun b => if smallR a b = true then some (.rng a b 1) else Option.none
  | [x, y, z] => (asIntM x).bind fun a => (asIntM y).bind fun b => (asIntM z).bind fun c => if smallR a b = true ∧ (c = 1 ∨ c = -1) then some (.rng a b c) else Option.none
  | _ :: _ :: _ :: _ :: _ => Option.none
noncomputable def intM (x : MV) : Option Int :=
  match x with
  | .int i => some i
  | .bool b => some (boolInt b)
  | _ => Option.none
noncomputable def itemsM (x : MV) (st : St) : Option (List MV) :=
  match x with
  | .lst xs => some xs
  | .loc l => listAt st l
  | _ => Option.none
noncomputable def listM (x : MV) (st : St) : Option (MV × St) :=
  match x with
  | .bytes b => some (.loc st.length, st ++ [.list (b.map fun u => .int u.toNat)])
  | .rng a b c => if smallR a b = true ∧ c = 1 then some (.lst ((rangeInts a c (rangeLen a b c)).map .int), st) else Option.none
  | _ => Option.none
/-- a call of a built-in -/
noncomputable def callB (b : BI) (args : List MV) (st : St) : Option (MV × St) :=
  match b with
  | .len => (one args).bind fun x => (lenM x st).map fun (n : Nat) => (.int n, st)
  | .range => (rangeM args).map fun r => (r, st)
  | .int => (one args).bind fun x => (intM x).map fun i => (.int i, st)
  | .abs => (one args).bind fun x => (asIntM x).map fun i => (.int i.natAbs, st)
  | .sum => (one args).bind fun x => (asLstM x).bind fun xs => (allInt xs).map fun l => (.int l.sum, st)
  | .bytes => (one args).bind fun x => (itemsM x st).bind fun xs => (bytesOf xs).map fun l => (.bytes l, st)
  | .list => (one args).bind fun x => listM x st
  | .dict => (one args).bind fun x => (asLocM x).bind fun l => (dictAt st l).map fun es => (.loc st.length, st ++ [.dict es])
  | .tuple => (one args).bind fun x => (asLocM x).bind fun l => (listAt st l).map fun xs => (.tup xs, st)
  | .enumerate => Option.none

noncomputable def evs : List Expr → ME → Lc → St → Option (List MV × St)
  | [], _, _, st => some ([], st)
  | e :: r, me, lc, st => (R.ev e me lc st).bind fun (v, st) => (evs r me lc st).bind fun (vs, st) => some (v :: vs, st)

noncomputable def isComp (e : Expr) : Bool := e.ctorIdx == 8
noncomputable def isBadE (e : Expr) : Bool := e.ctorIdx == 9 || e.ctorIdx == 10
noncomputable def isAnyComp (e : Expr) : Bool := isComp e || isBadE e
noncomputable def isName (e : Expr) : Bool := e.ctorIdx == 23
noncomputable def isStarred (e : Expr) : Bool := e.ctorIdx == 22
noncomputable def isSet (e : Expr) : Bool := e.ctorIdx == 7
noncomputable def isCall (e : Expr) : Bool := e.ctorIdx == 16
noncomputable def isSlice (e : Expr) : Bool := e.ctorIdx == 26

noncomputable def evOpt : Option Expr → ME → Lc → St → Option (Option Int × St)
  | Option.none, _, _, st => some (Option.none, st)
  | some e, me, lc, st => (R.ev e me lc st).bind fun (v, st) => (asIntM v).bind fun i => some (some i, st)

noncomputable def strC (c : Const) : Option Str := if h : c.ctorIdx = 5 then Const.str.elim (motive := fun _ => Option Str) c h some else Option.none
theorem strC_eq {c : Const} {k : Str} (h : strC c = some k) : c = .str k := by
  by_cases n : c.ctorIdx = 5
  · exact Const.str.elim (motive := fun c => strC c = some k → c = .str k) c n (fun j g => congrArg Const.str (Option.some.inj g)) h
  · exact no_some ((dif_neg n).symm.trans h)
noncomputable def keyX (e : Expr) : Option Str := if h : e.ctorIdx = 19 then Expr.Constant.elim (motive_1 := fun _ => Option Str) e h fun c _ _ => strC c else Option.none
theorem keyX_eq {e : Expr} {k : Str} (h : keyX e = some k) : ∃ i p, e = .Constant (.str k) i p := by
  by_cases n : e.ctorIdx = 19
  · exact Expr.Constant.elim (motive_1 := fun e => keyX e = some k → ∃ i p, e = .Constant (.str k) i p) e n (fun c i p g => ⟨i, p, by rw [strC_eq g]⟩) h
  · exact no_some ((dif_neg n).symm.trans h)
noncomputable def dictOf? : List (Option Expr) → List Expr → ME → Lc → St → Option (List (Str × MV) × St)
  | [], vs, _, _, st => (match vs with
    | [] => some ([], st)
    | _ :: _ => Option.none)
  | k :: ks, vs, me, lc, st => (match vs with
    | [] => Option.none
    | v :: vs => (k.bind keyX).bind fun k => (R.ev v me lc st).bind fun (v, st) => (dictOf? ks vs me lc st).bind fun (r, st) => if (r.lookup k).isSome = true then Option.none else some ((k, v) :: r, st))

/-- a chain of comparisons -/
noncomputable def chain (a : MV) : List CmpOp → List Expr → ME → Lc → St → Option (Bool × St)
  | [], _, _, _, _ => Option.none
  | op :: ops, es, me, lc, st => (match es with
    | [] => Option.none
    | e :: es => (R.ev e me lc st).bind fun (b, st) => (cmp op a b st).bind fun r => if (ops.isEmpty && es.isEmpty) = true then some (r, st) else if r then chain b ops es me lc st else some (false, st))

noncomputable def boolM : BoolOp → List Expr → ME → Lc → St → Option (Bool × St)
  | .And, [], _, _, st => some (true, st)
  | .Or, [], _, _, st => some (false, st)
  | .And, e :: r, me, lc, st => (R.tr e me lc st).bind fun (b, st) => if b then boolM .And r me lc st else some (false, st)
  | .Or, e :: r, me, lc, st => (R.tr e me lc st).bind fun (b, st) => if b then some (true, st) else boolM .Or r me lc st

/-- and, or as values: the operands are bools -/
noncomputable def boolV (op : BoolOp) : List Expr → ME → Lc → St → Option (Bool × St)
  | [], _, _, _ => Option.none
  | e :: r, me, lc, st => (R.ev e me lc st).bind fun (v, st) => (asBoolM v).bind fun b => if r.isEmpty = true then some (b, st) else match op with
    | .And => if b then boolV op r me lc st else some (false, st)
    | .Or => if b then some (true, st) else boolV op r me lc st

noncomputable def insM (v : MV) : Option (Nat × Nat) := if h : v.ctorIdx = 8 then MV.ins.elim (motive_1 := fun _ => Option (Nat × Nat)) v h fun C l => some (C, l) else Option.none
theorem insM_eq {v : MV} {q : Nat × Nat} (h : insM v = some q) : v = .ins q.1 q.2 := by
  by_cases c : v.ctorIdx = 8
  · exact MV.ins.elim (motive_1 := fun v => insM v = some q → v = .ins q.1 q.2) v c (fun C l g => by rw [← Option.some.inj g]) h
  · exact no_some ((dif_neg c).symm.trans h)
noncomputable def attrM (o : MV) (a : Str) (st : St) : Option MV :=
  (insM o).bind fun q => if P.meth q.1 a = some Option.none then (instAt st q.2).bind fun fs => fs.lookup a else Option.none

noncomputable def setAttrM (o : MV) (a : Str) (v : MV) (st : St) : Option St :=
  (insM o).bind fun q => if P.meth q.1 a = some Option.none then (instAt st q.2).bind fun fs => if fs.length ≤ 100 then some (st.set q.2 (.inst (dput fs a v))) else Option.none else Option.none

/-- what the text's top says is called -/
noncomputable def callable (f : MV) : Bool :=
  match f with
  | .fn a => (P.defs a).isSome
  | .cls C => (P.init C).isSome
  | .bi _ => true
  | .lam .. => true
  | _ => false

/-- a call of a method: the callee is looked up ahead of the arguments -/
noncomputable def methIns (C l : Nat) (m : Str) (args : List Expr) (me : ME) (lc : Lc) (st : St) : Option (MV × St) :=
  match P.meth C m with
  | some (some f) => (instAt st l).bind fun fs => if ((fs.lookup m).isSome || !callable P (.fn f)) = true then Option.none else (evs R args me lc st).bind fun (vs, st) => R.call (.fn f) (.ins C l :: vs) st
  | some Option.none => (attrM P (.ins C l) m st).bind fun f => if (!callable P f) = true then Option.none else (evs R args me lc st).bind fun (vs, st) => R.call f vs st
  | Option.none => Option.none
noncomputable def methLoc (l : Nat) (m : Str) (args : List Expr) (me : ME) (lc : Lc) (st : St) : Option (MV × St) :=
  (listAt st l).bind fun _ => if m = "append" then (evs R args me lc st).bind fun (vs, st) => (one vs).bind fun v => (listAt st l).bind fun xs => if xs.length ≤ 1048576 then some (.none, st.set l (.list (xs ++ [v]))) else Option.none else Option.none
noncomputable def methBytes (b : List UInt8) (m : Str) (args : List Expr) (me : ME) (lc : Lc) (st : St) : Option (MV × St) :=
  if m = "index" then (evs R args me lc st).bind fun (vs, st) => (one vs).bind fun v => (asIntM v).bind fun i => if 0 ≤ i ∧ i < 256 then (b.findIdx? (· == UInt8.ofNat i.toNat)).map fun (k : Nat) => (.int k, st) else Option.none else Option.none
noncomputable def methStr (s : Str) (m : Str) (args : List Expr) (me : ME) (lc : Lc) (st : St) : Option (MV × St) :=
  if m = "split" then (evs R args me lc st).bind fun (vs, st) => (one vs).bind fun v => (asStrM v).bind fun sep => (splitKinds s sep).map fun l => (.lst (l.map .str), st) else Option.none
noncomputable def callMeth (o : MV) (m : Str) (args : List Expr) (me : ME) (lc : Lc) (st : St) : Option (MV × St) :=
  match o with
  | .ins C l => methIns P R C l m args me lc st
  | .loc l => methLoc R l m args me lc st
  | .bytes b => methBytes R b m args me lc st
  | .str s => methStr R s m args me lc st
  | _ => Option.none

noncomputable def isRng (it : It) : Bool := it.ctorIdx == 2 || it.ctorIdx == 3 || it.ctorIdx == 5
noncomputable def isEnumB (v : MV) : Bool := if h : v.ctorIdx = 11 then MV.bi.elim (motive_1 := fun _ => Bool) v h fun b => b == .enumerate else false
theorem isEnumB_eq {v : MV} (h : isEnumB v = true) : v = .bi .enumerate := by
  by_cases c : v.ctorIdx = 11
  · exact MV.bi.elim (motive_1 := fun v => isEnumB v = true → v = .bi .enumerate) v c (fun b g => congrArg MV.bi (eq_of_beq g)) h
  · exact no_true ((dif_neg c).symm.trans h)
noncomputable def nameP (e : Expr) : Option (Str × Pos) := if h : e.ctorIdx = 23 then Expr.Name.elim (motive_1 := fun _ => Option (Str × Pos)) e h fun x p => some (x, p) else Option.none
theorem nameP_eq {e : Expr} {q : Str × Pos} (h : nameP e = some q) : e = .Name q.1 q.2 := by
  by_cases c : e.ctorIdx = 23
  · exact Expr.Name.elim (motive_1 := fun e => nameP e = some q → e = .Name q.1 q.2) e c (fun x p g => by rw [← Option.some.inj g]) h
  · exact no_some ((dif_neg c).symm.trans h)
noncomputable def listP (e : Expr) : Option (List Expr × Pos) := if h : e.ctorIdx = 24 then Expr.List.elim (motive_1 := fun _ => Option (List Expr × Pos)) e h fun x p => some (x, p) else Option.none
theorem listP_eq {e : Expr} {q : List Expr × Pos} (h : listP e = some q) : e = .List q.1 q.2 := by
  by_cases c : e.ctorIdx = 24
  · exact Expr.List.elim (motive_1 := fun e => listP e = some q → e = .List q.1 q.2) e c (fun x p g => by rw [← Option.some.inj g]) h
  · exact no_some ((dif_neg c).symm.trans h)
noncomputable def callP (e : Expr) : Option (Expr × List Expr × List Keyword × Pos) := if h : e.ctorIdx = 16 then Expr.Call.elim (motive_1 := fun _ => Option (Expr × List Expr × List Keyword × Pos)) e h fun f a k p => some (f, a, k, p) else Option.none
theorem callP_eq {e : Expr} {q : Expr × List Expr × List Keyword × Pos} (h : callP e = some q) : e = .Call q.1 q.2.1 q.2.2.1 q.2.2.2 := by
  by_cases c : e.ctorIdx = 16
  · exact Expr.Call.elim (motive_1 := fun e => callP e = some q → e = .Call q.1 q.2.1 q.2.2.1 q.2.2.2) e c (fun f a k p g => by rw [← Option.some.inj g]) h
  · exact no_some ((dif_neg c).symm.trans h)
noncomputable def oneE : List Expr → Option Expr
  | [t] => some t
  | _ => Option.none
theorem oneE_eq {l : List Expr} {t : Expr} (h : oneE l = some t) : l = [t] := by
  induction l using List.casesOn with
  | nil => exact no_some h
  | cons a r => induction r using List.casesOn with
    | nil => rw [Option.some.inj h]
    | cons => exact no_some h
/-- a call of a name on one argument -/
noncomputable def call1E (e : Expr) : Option (Str × Pos × Expr × Pos) := (callP e).bind fun q => (nameP q.1).bind fun n => (oneE q.2.1).bind fun a => if q.2.2.1.isEmpty = true then some (n.1, n.2, a, q.2.2.2) else Option.none
theorem call1E_eq {e : Expr} {q : Str × Pos × Expr × Pos} (h : call1E e = some q) : e = .Call (.Name q.1 q.2.1) [q.2.2.1] [] q.2.2.2 := by
  obtain ⟨c, h1, h⟩ := Option.bind_eq_some_iff.mp h
  obtain ⟨n, h2, h⟩ := Option.bind_eq_some_iff.mp h
  obtain ⟨a, h3, h⟩ := Option.bind_eq_some_iff.mp h
  by_cases k : c.2.2.1.isEmpty = true
  · rw [callP_eq h1, nameP_eq h2, oneE_eq h3, List.isEmpty_iff.mp k, ← Option.some.inj ((if_pos k).symm.trans h)]
  · exact no_some ((if_neg k).symm.trans h)
noncomputable def iterV (e : Expr) (me : ME) (lc : Lc) (st : St) : Option (It × St) := (R.ev e me lc st).bind fun (v, st) => (itOf v st).map fun it => (it, st)
noncomputable def iterOf (e : Expr) (me : ME) (lc : Lc) (st : St) : Option (It × St) :=
  match call1E e with
  | some q => (getName P me lc q.1).bind fun f => if isEnumB f then (if isStarred q.2.2.1 then Option.none else (R.ev q.2.2.1 me lc st).bind fun (v, st) => (itOf v st).bind fun it => if isRng it then Option.none else some (.enm 0 it, st))
    else iterV R e me lc st
  | Option.none => iterV R e me lc st

noncomputable def timesE (e : Expr) (op : Operator) : Option Expr := (listP e).bind fun q => (oneE q.1).bind fun e => if op = .Mult then some e else Option.none
theorem timesE_eq {l : Expr} {op : Operator} {e : Expr} (h : timesE l op = some e) : ∃ p, l = .List [e] p ∧ op = .Mult := by
  obtain ⟨q, h1, h⟩ := Option.bind_eq_some_iff.mp h
  obtain ⟨a, h2, h⟩ := Option.bind_eq_some_iff.mp h
  by_cases k : op = .Mult
  · exact ⟨q.2, by rw [listP_eq h1, oneE_eq h2, Option.some.inj ((if_pos k).symm.trans h)], k⟩
  · exact no_some ((if_neg k).symm.trans h)
noncomputable def dictE (e : Expr) : Option (List (Option Expr) × List Expr × Pos) := if h : e.ctorIdx = 6 then Expr.Dict.elim (motive_1 := fun _ => Option (List (Option Expr) × List Expr × Pos)) e h fun k v p => some (k, v, p) else Option.none
theorem dictE_eq {e : Expr} {q : List (Option Expr) × List Expr × Pos} (h : dictE e = some q) : e = .Dict q.1 q.2.1 q.2.2 := by
  by_cases c : e.ctorIdx = 6
  · exact Expr.Dict.elim (motive_1 := fun e => dictE e = some q → e = .Dict q.1 q.2.1 q.2.2) e c (fun k v p g => by rw [← Option.some.inj g]) h
  · exact no_some ((dif_neg c).symm.trans h)
noncomputable def cutE (e : Expr) : Option (Option Expr × Option Expr × Pos) := if h : e.ctorIdx = 26 then Expr.Slice.elim (motive_1 := fun _ => Option (Option Expr × Option Expr × Pos)) e h fun lo hi step p => if step.isNone = true then some (lo, hi, p) else Option.none else Option.none
theorem cutE_eq {e : Expr} {q : Option Expr × Option Expr × Pos} (h : cutE e = some q) : e = .Slice q.1 q.2.1 Option.none q.2.2 := by
  by_cases c : e.ctorIdx = 26
  · refine Expr.Slice.elim (motive_1 := fun e => cutE e = some q → e = .Slice q.1 q.2.1 Option.none q.2.2) e c (fun lo hi step p g => ?_) h
    by_cases k : step.isNone = true
    · rw [← Option.some.inj ((if_pos k).symm.trans g), Option.isNone_iff_eq_none.mp k]
    · exact no_some ((if_neg k).symm.trans g)
  · exact no_some ((dif_neg c).symm.trans h)
noncomputable def attrE (e : Expr) : Option (Expr × Str × Pos) := if h : e.ctorIdx = 20 then Expr.Attribute.elim (motive_1 := fun _ => Option (Expr × Str × Pos)) e h fun o m p => some (o, m, p) else Option.none
theorem attrE_eq {e : Expr} {q : Expr × Str × Pos} (h : attrE e = some q) : e = .Attribute q.1 q.2.1 q.2.2 := by
  by_cases c : e.ctorIdx = 20
  · exact Expr.Attribute.elim (motive_1 := fun e => attrE e = some q → e = .Attribute q.1 q.2.1 q.2.2) e c (fun k v p g => by rw [← Option.some.inj g]) h
  · exact no_some ((dif_neg c).symm.trans h)
noncomputable def genE : List Comprehension → Option (Expr × Expr × List Expr)
  | [g] => if g.is_async = 0 then some (g.target, g.iter, g.ifs) else Option.none
  | _ => Option.none
theorem genE_eq {l : List Comprehension} {q : Expr × Expr × List Expr} (h : genE l = some q) : l = [⟨q.1, q.2.1, q.2.2, 0⟩] := by
  induction l using List.casesOn with
  | nil => exact no_some h
  | cons g r => induction r using List.casesOn with
    | nil =>
      obtain ⟨t, it, ifs, a⟩ := g
      by_cases ha : a = 0
      · subst ha; cases h; rfl
      · rw [show genE [⟨t, it, ifs, a⟩] = none from if_neg ha] at h
        exact no_some h
    | cons => exact no_some h

noncomputable def unF (op : UnaryOp) (r : Option (MV × St)) : Option (MV × St) :=
  match op with
  | .Not => r.bind fun (v, st) => (asBoolM v).bind fun b => some (.bool (!b), st)
  | .USub => r.bind fun (v, st) => (asIntM v).bind fun i => some (.int (-i), st)
  | _ => Option.none
noncomputable def binF (l : Expr) (op : Operator) (r : Expr) (me : ME) (lc : Lc) (st : St) : Option (MV × St) :=
  match timesE l op with
  | some e => if isStarred e then Option.none else (R.ev e me lc st).bind fun (v, st) => (R.ev r me lc st).bind fun (b, st) => (asIntM b).bind fun n => if 0 ≤ n ∧ n ≤ 1048576 then some (.loc st.length, st ++ [.list (List.replicate n.toNat v)]) else Option.none
  | Option.none => (R.ev l me lc st).bind fun (a, st) => (R.ev r me lc st).bind fun (b, st) => bop op a b st
noncomputable def listF (es : List Expr) (me : ME) (lc : Lc) (st : St) : Option (MV × St) :=
  match es with
  | [] => some (.loc st.length, st ++ [.list []])
  | e :: es => if (e :: es).any isStarred || decide (1048576 < (e :: es).length) then Option.none else (evs R (e :: es) me lc st).map fun (vs, st) =>
      if isComp e then (.loc st.length, st ++ [.list vs]) else (.lst vs, st)
noncomputable def subF (v i : Expr) (me : ME) (lc : Lc) (st : St) : Option (MV × St) :=
  match dictE v with
  | some q => if isSlice i || decide (15 < q.2.1.length) || decide (q.2.1.length = 0) then Option.none else (dictOf? R q.1 q.2.1 me lc st).bind fun (es, st) => (R.ev i me lc st).bind fun (k, st) => (asStrM k).bind fun k => (es.lookup k).map fun v => (v, st)
  | Option.none => (match cutE i with
    | some q => (R.ev v me lc st).bind fun (o, st) => (evOpt R q.1 me lc st).bind fun (a, st) => (evOpt R q.2.1 me lc st).bind fun (b, st) => (sliceM o a b).map fun r => (r, st)
    | Option.none => if isSlice i then Option.none else (R.ev v me lc st).bind fun (o, st) => (R.ev i me lc st).bind fun (k, st) => (getItemM o k st).map fun r => (r, st))
noncomputable def callE (f : Expr) (args : List Expr) (ps : Pos) (me : ME) (lc : Lc) (st : St) : Option (MV × St) :=
  match attrE f with
  | some q => if args.any isStarred || decide (29 < args.length) || isCall q.1 || q.2.2.endLine != ps.line then Option.none else (R.ev q.1 me lc st).bind fun (ov, st) => callMeth P R ov q.2.1 args me lc st
  | Option.none => if !isName f || (args.any isStarred || decide (29 < args.length)) then Option.none else (R.ev f me lc st).bind fun (fv, st) => if !callable P fv then Option.none else (evs R args me lc st).bind fun (vs, st) => R.call fv vs st
noncomputable def compE (elt : Expr) (gens : List Comprehension) (scope : Scope) (me : ME) (lc : Lc) (st : St) : Option (MV × St) :=
  match genE gens with
  | some q => if innerOk me scope && !isSet q.2.1 then
      (R.ev q.2.1 me lc st).bind fun (v, st) => (itOf v st).bind fun i =>
        (R.comp elt q.1 q.2.2 i [] ⟨relabelM me scope, capture me lc scope, fun x => scope.names.lookup x == some .cell, false⟩ Lc.nil st).map fun (vs, st) => (.lst vs, st)
      else Option.none
  | Option.none => Option.none
noncomputable def evF (e : Expr) (me : ME) (lc : Lc) (st : St) : Option (MV × St) :=
  match e with
  | .Constant c _ _ => (constM c).map fun v => (v, st)
  | .Name x _ => (getName P me lc x).map fun v => (v, st)
  | .BoolOp op vs _ => (boolV R op vs me lc st).map fun (b, st) => (.bool b, st)
  | .BinOp l op r _ => binF R l op r me lc st
  | .UnaryOp op x _ => unF op (R.ev x me lc st)
  | .IfExp t b o _ => (R.tr t me lc st).bind fun (c, st) => if c then R.ev b me lc st else R.ev o me lc st
  | .Tuple es _ _ => if es.any isStarred || decide (1048576 < es.length) then Option.none else (evs R es me lc st).map fun (vs, st) => (.tup vs, st)
  | .List es _ => listF R es me lc st
  | .Dict ks vs _ => if 0 < vs.length && decide (vs.length ≤ 15) then (dictOf? R ks vs me lc st).map fun (es, st) => (.loc st.length, st ++ [.dict es]) else Option.none
  | .Subscript v i _ => subF R v i me lc st
  | .Attribute o a _ => if !isName o then Option.none else (R.ev o me lc st).bind fun (o, st) => (attrM P o a st).map fun v => (v, st)
  | .Compare l ops cs _ => if cs.any isSet then Option.none else (R.ev l me lc st).bind fun (a, st) => (chain R a ops cs me lc st).map fun (b, st) => (.bool b, st)
  | .Call f args kws ps => if !kws.isEmpty then Option.none else callE P R f args ps me lc st
  | .ListComp elt gens scope _ => compE R elt gens scope me lc st
  | .Lambda ps body scope _ => if me.lam && innerOk me scope && scope.names.all (fun p => p.2 != .free || !me.own p.1) && plainParams ps && scope.names.all (fun p => p.2 != .cell) && ps.args.all (fun p => scope.names.lookup p.arg == some .local) then some (.lam ps body scope (captured me lc scope), st) else Option.none
  | _ => Option.none

noncomputable def trF (e : Expr) (me : ME) (lc : Lc) (st : St) : Option (Bool × St) :=
  match e with
  | .UnaryOp .Not x _ => (R.tr x me lc st).map fun (b, st) => (!b, st)
  | .BoolOp op vs _ => boolM R op vs me lc st
  | .Compare l ops cs _ => if cs.any isSet then Option.none else (R.ev l me lc st).bind fun (a, st) => chain R a ops cs me lc st
  | .IfExp .. => Option.none
  | e => (R.ev e me lc st).bind fun (v, st) => (asBoolM v).bind fun b => some (b, st)

noncomputable def nameOf (e : Expr) : Option Str := (nameP e).map (·.1)
theorem nameOf_eq {e : Expr} {x : Str} (h : nameOf e = some x) : ∃ p, e = .Name x p := by
  obtain ⟨q, h1, h2⟩ := Option.map_eq_some_iff.mp h
  exact ⟨q.2, by rw [nameP_eq h1, h2]⟩
noncomputable def assignNames (me : ME) : List Expr → List MV → Lc → Option Lc
  | [], vs, lc => if vs.isEmpty then some lc else Option.none
  | t :: ts, vs, lc => (match vs with
    | [] => Option.none
    | v :: vs => (nameOf t).bind fun x => (setName me lc x v).bind fun lc => assignNames me ts vs lc)

noncomputable def asTupM (v : MV) : Option (List MV) := if h : v.ctorIdx = 5 then MV.tup.elim (motive_1 := fun _ => Option (List MV)) v h some else Option.none
theorem asTupM_eq {v : MV} {i : (List MV)} (h : asTupM v = some i) : v = .tup i := by
  by_cases c : v.ctorIdx = 5
  · exact MV.tup.elim (motive_1 := fun v => asTupM v = some i → v = .tup i) v c (fun j g => congrArg MV.tup (Option.some.inj g)) h
  · exact no_some ((dif_neg c).symm.trans h)
noncomputable def assignF (t : Expr) (v : MV) (me : ME) (lc : Lc) (st : St) : Option (Lc × St) :=
  match t with
  | .Name x _ => (setName me lc x v).map fun lc => (lc, st)
  | .Tuple ts _ _ => (asTupM v).bind fun vs => (assignNames me ts vs lc).map fun lc => (lc, st)
  | .Subscript o i _ => if isSlice i then Option.none else (R.ev o me lc st).bind fun (ov, st) => (R.ev i me lc st).bind fun (iv, st) => (setItemM ov iv v st).map fun st => (lc, st)
  | .Attribute o a _ => if !isName o then Option.none else (R.ev o me lc st).bind fun (ov, st) => (setAttrM P ov a v st).map fun st => (lc, st)
  | _ => Option.none

noncomputable def exs : List Stmt → ME → Lc → St → Option (MF × Lc × St)
  | [], _, lc, st => some (.next, lc, st)
  | s :: r, me, lc, st => (R.ex s me lc st).bind fun (f, lc, st) => match f with
    | .next => exs r me lc st
    | f => some (f, lc, st)

theorem assignNames_inv {me : ME} {ts : List Expr} {vs : List MV} {lc lc' : Lc} (h : assignNames me ts vs lc = some lc') :
    (ts = [] ∧ vs = [] ∧ lc = lc') ∨ ∃ x p ts' v vs' lc1, ts = .Name x p :: ts' ∧ vs = v :: vs' ∧ setName me lc x v = some lc1 ∧ assignNames me ts' vs' lc1 = some lc' := by
  induction ts using List.casesOn with
  | nil => induction vs using List.casesOn with
    | nil => exact .inl ⟨rfl, rfl, Option.some.inj h⟩
    | cons v vs => exact no_some h
  | cons t ts => induction vs using List.casesOn with
    | nil => exact no_some h
    | cons v vs =>
      obtain ⟨x, hx, g⟩ := Option.bind_eq_some_iff.mp (show (nameOf t).bind (fun x => (setName me lc x v).bind fun lc => assignNames me ts vs lc) = some lc' from h)
      obtain ⟨p, e⟩ := nameOf_eq hx
      obtain ⟨lc1, h1, h2⟩ := Option.bind_eq_some_iff.mp g
      exact .inr ⟨x, p, ts, v, vs, lc1, by rw [e], rfl, h1, h2⟩

/-- two displays of constant expressions: left out; so are names that come twice -/
noncomputable def tupArgs (e : Expr) : Option (List Expr) := if h : e.ctorIdx = 25 then Expr.Tuple.elim (motive_1 := fun _ => Option (List Expr)) e h fun ts _ _ => some ts else Option.none
noncomputable def isListT (e : Expr) : Bool := e.ctorIdx == 24 || e.ctorIdx == 22
noncomputable def swapBad (t e : Expr) : Bool :=
  (match tupArgs t with
  | some ts => (match tupArgs e with
    | some vs => (vs.all (constantsAlone 8) && !vs.all (foldedForSure 8)) || !decide ((ts.filterMap nameOf).Nodup)
    | Option.none => false)
  | Option.none => false) || isListT t || isBadE e
theorem swapBad_parts {t e : Expr} (h : swapBad t e = false) : isListT t = false ∧ isBadE e = false := by
  unfold swapBad at h
  rw [Bool.or_eq_false_iff, Bool.or_eq_false_iff] at h
  exact ⟨h.1.2, h.2⟩
theorem swapBad_tup {ts vs : List Expr} {c c' : Nat} {p p' : Pos} (h : swapBad (.Tuple ts c p) (.Tuple vs c' p') = false) : (vs.all (constantsAlone 8) && !vs.all (foldedForSure 8)) = false ∧ (ts.filterMap nameOf).Nodup := by
  unfold swapBad at h
  rw [Bool.or_eq_false_iff, Bool.or_eq_false_iff] at h
  have h1 := Bool.or_eq_false_iff.mp (show (_ || _) = false from h.1.1)
  exact ⟨h1.1, by simpa using h1.2⟩
theorem name_of {e : Expr} (h : isName e = true) : ∃ x p, e = .Name x p := Expr.Name.elim (motive_1 := fun e => ∃ x p, e = .Name x p) e (eq_of_beq h) fun x p => ⟨x, p, rfl⟩

noncomputable def exF (s : Stmt) (me : ME) (lc : Lc) (st : St) : Option (MF × Lc × St) :=
  match s with
  | .Return e _ => e.bind fun e => (R.ev e me lc st).map fun (v, st) => (.ret v, lc, st)
  | .Expr e _ => if isAnyComp e then Option.none else (R.ev e me lc st).map fun (_, st) => (.next, lc, st)
  | .Assign ts e _ => (oneE ts).bind fun t => if swapBad t e then Option.none else (R.ev e me lc st).bind fun (v, st) => (assignF P R t v me lc st).map fun (lc, st) => (.next, lc, st)
  | .If t b o _ => (R.tr t me lc st).bind fun (c, st) => if c then exs R b me lc st else exs R o me lc st
  | .For t it b o _ => if !o.isEmpty || isSet it then Option.none else (iterOf P R it me lc st).bind fun (i, st) => R.loop t i b me lc st
  | .While t b o _ => if !o.isEmpty then Option.none else R.whil t b me lc st
  | _ => Option.none

noncomputable def isEnm (it : It) : Bool := it.ctorIdx == 5
noncomputable def isTupE (e : Expr) : Bool := e.ctorIdx == 25
noncomputable def loopF (t : Expr) (it : It) (b : List Stmt) (me : ME) (lc : Lc) (st : St) : Option (MF × Lc × St) :=
  if isEnm it && !isTupE t then Option.none else (nextM it st).bind fun r => match r with
    | Option.none => some (.next, lc, st)
    | some (v, it) => (assignF P R t v me lc st).bind fun (lc, st) => (exs R b me lc st).bind fun (f, lc, st) => match f with
      | .ret v => some (.ret v, lc, st)
      | .brk => some (.next, lc, st)
      | _ => R.loop t it b me lc st

noncomputable def whilF (t : Expr) (b : List Stmt) (me : ME) (lc : Lc) (st : St) : Option (MF × Lc × St) :=
  (R.tr t me lc st).bind fun (c, st) => if c then (exs R b me lc st).bind fun (f, lc, st) => (match f with
      | .ret v => some (.ret v, lc, st)
      | .brk => some (.next, lc, st)
      | _ => R.whil t b me lc st)
    else some (.next, lc, st)

noncomputable def tests : List Expr → ME → Lc → St → Option (Bool × St)
  | [], _, _, st => some (true, st)
  | e :: r, me, lc, st => (R.tr e me lc st).bind fun (b, st) => if b then tests r me lc st else some (false, st)

noncomputable def compF (elt t : Expr) (ifs : List Expr) (it : It) (acc : List MV) (me : ME) (lc : Lc) (st : St) : Option (List MV × St) :=
  if isEnm it then Option.none else (nextM it st).bind fun r => match r with
    | Option.none => some (acc, st)
    | some (v, it) => (assignF P R t v me lc st).bind fun (lc, st) => (tests R ifs me lc st).bind fun (ok, st) =>
      if ok then (if acc.length ≤ 1048576 then (R.ev elt me lc st).bind fun (v, st) => R.comp elt t ifs it (acc ++ [v]) me lc st else Option.none)
      else R.comp elt t ifs it acc me lc st

noncomputable def retV : MF → MV
  | .next => .none
  | .brk => .none
  | .cont => .none
  | .ret v => v
noncomputable def bind0 (k : Str → Bool) : List (Str × MV) → Lc → Lc
  | [], m => m
  | (n, v) :: r, m => bind0 k r (if k n then m.set n v else m)

noncomputable def callF (f : MV) (args : List MV) (st : St) : Option (MV × St) :=
  match f with
  | .fn a => (P.defs a).bind fun d => if d.params.args.length = args.length then
      let b := (d.params.args.map (·.arg)).zip args
      let k := fun x => d.scope.names.lookup x
      (exs R d.body ⟨d.scope, if d.lam then bind0 (fun x => k x == some .cell) b Lc.nil else Lc.nil, fun x => !d.lam && k x == some .cell, d.lam⟩ (bind0 (fun x => k x == some .local || (!d.lam && k x == some .cell)) b Lc.nil) st).map fun (r, _, st) => (retV r, st)
      else Option.none
  | .lam ps body scope fre => if decide (ps.args.length = args.length) && scopeOk scope && plainParams ps && scope.names.all (fun p => p.2 != .cell) && ps.args.all (fun p => scope.names.lookup p.arg == some .local) then
      R.ev body ⟨scope, fun x => fre.lookup x, fun _ => false, false⟩ (bind0 (fun x => scope.names.lookup x == some .local) ((ps.args.map (·.arg)).zip args) Lc.nil) st
      else Option.none
  | .cls C => (P.init C).bind fun i => (R.call (.fn i) (.ins C st.length :: args) (st ++ [.inst []])).bind fun (r, st') => if isNoneM r = true then some (.ins C st.length, st') else Option.none
  | .bi b => callB b args st
  | _ => Option.none
end

section
variable {R : Rec} {me : ME} {lc : Lc} {st : St}
theorem evs_step {e : Expr} {r : List Expr} : evs R (e :: r) me lc st = (R.ev e me lc st).bind fun x => (evs R r me lc x.2).bind fun y => some (x.1 :: y.1, y.2) := rfl
theorem chain_step {a : MV} {op : CmpOp} {ops : List CmpOp} {e : Expr} {es : List Expr} : chain R a (op :: ops) (e :: es) me lc st =
    (R.ev e me lc st).bind fun x => (cmp op a x.1 x.2).bind fun r => if (ops.isEmpty && es.isEmpty) = true then some (r, x.2) else if r then chain R x.1 ops es me lc x.2 else some (false, x.2) := rfl
theorem and_step {e : Expr} {r : List Expr} : boolM R .And (e :: r) me lc st = (R.tr e me lc st).bind fun x => if x.1 then boolM R .And r me lc x.2 else some (false, x.2) := rfl
theorem or_step {e : Expr} {r : List Expr} : boolM R .Or (e :: r) me lc st = (R.tr e me lc st).bind fun x => if x.1 then some (true, x.2) else boolM R .Or r me lc x.2 := rfl
theorem exs_step {s : Stmt} {r : List Stmt} : exs R (s :: r) me lc st = (R.ex s me lc st).bind fun x => match x with
    | (f, lc, st) => match f with
      | .next => exs R r me lc st
      | f => some (f, lc, st) := rfl
theorem tests_step {e : Expr} {r : List Expr} : tests R (e :: r) me lc st = (R.tr e me lc st).bind fun x => if x.1 then tests R r me lc x.2 else some (false, x.2) := rfl
theorem dict_step {k : Option Expr} {ks : List (Option Expr)} {v : Expr} {vs : List Expr} : dictOf? R (k :: ks) (v :: vs) me lc st =
    (k.bind keyX).bind fun k => (R.ev v me lc st).bind fun x => (dictOf? R ks vs me lc x.2).bind fun y => if (y.1.lookup k).isSome = true then Option.none else some ((k, x.1) :: y.1, y.2) := rfl
theorem bind0_step {k : Str → Bool} {n : Str} {v : MV} {r : List (Str × MV)} : bind0 k ((n, v) :: r) lc = bind0 k r (if k n then lc.set n v else lc) := rfl
end

noncomputable def Rec.stuck : Rec := ⟨fun _ _ _ _ => Option.none, fun _ _ _ _ => Option.none, fun _ _ _ _ => Option.none, fun _ _ _ => Option.none, fun _ _ _ _ _ _ => Option.none, fun _ _ _ _ _ => Option.none, fun _ _ _ _ _ _ _ _ => Option.none⟩
noncomputable def stepR (P : MP) (R : Rec) : Rec := ⟨evF P R, trF R, exF P R, callF P R, loopF P R, whilF R, compF P R⟩
noncomputable def run (P : MP) : Nat → Rec
  | 0 => Rec.stuck
  | n + 1 => stepR P (run P n)
end Mine
end
section
open PySem PySem.W PySem.Calls PyProof.Rows PySem.Spec
open AutoSeq1 (wpAny_loadPart')
namespace Mine

theorem meets_enumT (l : Addr) (items : Array Value) (n : Nat) (dct : Option Addr) (sl : Array (Option Value)) :
    Meets (Builtin.«enumerate.__new__» ⟨[.type "enumerate", .ref l], []⟩) (fun _ R s => s.heap.get? l = some { cls := .type "tuple", dict := dct, data := .seq items n, slots := sl } ∧
      R (.ok (.ret (.ref (s.heap.push { cls := .type "tuple_iterator", data := .fields #[.ref l, .int 0 0] }).objs.size)))
        { s with heap := (s.heap.push { cls := .type "tuple_iterator", data := .fields #[.ref l, .int 0 0] }).push { cls := .type "enumerate", data := .fields #[.none, .bool false, .ref s.heap.objs.size, rawInt 0, .none, .none] } }) :=
  .of_wp fun prog w A R s h => by
    obtain ⟨hp, g, d, tk, os⟩ := s; obtain ⟨hl, h⟩ := h
    have hsub := sub_enumerate
    have hL : Heap.IsTuple (Shared.heap ⟨hp, g, d, tk, os⟩) l items := ⟨_, hl, rfl, n, rfl⟩
    wp_walk using wpAny_loadPart' hl
    refine wpAny_stack_any fun st => wpAny_pure ?_
    generalize (PySem.Builtin.SmallTypes.calledThroughType.match_1 (fun _ => Bool) (List.drop 1 st) (fun c _ _ _ _ => c == Value.type "enumerate") (fun _ => false)) = b
    induction b using Bool.casesOn
    · wp_walk using wpAny_loadPart' hl, wpAny_pyIter_tuple hL
      exact ⟨_, rfl, h⟩
    · wp_walk using wpAny_loadPart' hl, wpAny_pyIter_tuple hL
      exact ⟨_, rfl, h⟩

set_option maxHeartbeats 1000000 in
theorem meets_enumB (x : Array UInt8) (t : Tok) :
    Meets (Builtin.«enumerate.__new__» ⟨[.type "enumerate", .bytes x t], []⟩) (fun _ R s =>
      R (.ok (.ret (.ref (s.heap.push { cls := .type "bytes_iterator", data := .fields #[.bytes x t, .int 0 0] }).objs.size)))
        { s with heap := (s.heap.push { cls := .type "bytes_iterator", data := .fields #[.bytes x t, .int 0 0] }).push { cls := .type "enumerate", data := .fields #[.none, .bool false, .ref s.heap.objs.size, rawInt 0, .none, .none] } }) :=
  .of_wp fun prog w A R s h => by
    obtain ⟨hp, g, d, tk, os⟩ := s
    have hsub := sub_enumerate
    wp_walk
    refine wpAny_stack_any fun st => wpAny_pure ?_
    generalize (PySem.Builtin.SmallTypes.calledThroughType.match_1 (fun _ => Bool) (List.drop 1 st) (fun c _ _ _ _ => c == Value.type "enumerate") (fun _ => false)) = b
    induction b using Bool.casesOn
    · wp_walk using KBw.pyIter_bytes
      exact ⟨_, rfl, h⟩
    · wp_walk using KBw.pyIter_bytes
      exact ⟨_, rfl, h⟩

section
variable {prog : Program} {w : World} {A : Around} {E : Value → Shared → Prop} {s : Shared}

theorem enum_made {o : Obj} {h : Heap} : ((h.push o).push ({ cls := .type "enumerate", data := .fields #[.none, .bool false, .ref h.objs.size, rawInt 0, .none, .none] } : Obj)).get? (h.objs.size + 1) =
    some { cls := .type "enumerate", data := .fields #[.none, .bool false, .ref h.objs.size, rawInt 0, .none, .none] } := by
  have := Heap.get?_push_size (h.push o) (o := { cls := .type "enumerate", data := .fields #[.none, .bool false, .ref h.objs.size, rawInt 0, .none, .none] }) rfl
  rw [Heap.size_push] at this; exact this

noncomputable abbrev enumHeap (h : Heap) (o : Obj) : Heap := (h.push o).push { cls := .type "enumerate", data := .fields #[.none, .bool false, .ref h.objs.size, rawInt 0, .none, .none] }

theorem call_enumT {l : Addr} {items : Array Value} {Q : Value → Shared → Prop} (hL : s.heap.IsTuple l items)
    (h : Q (.ref (s.heap.objs.size + 1)) { s with heap := enumHeap s.heap { cls := .type "tuple_iterator", data := .fields #[.ref l, .int 0 0] } }) :
    wpAny (model prog w) A (call (.type "enumerate") [.ref l]) Q E s := by
  obtain ⟨⟨c, dct, dt, sl⟩, hl, hc, n, hd⟩ := hL
  replace hc : c = .type "tuple" := hc
  replace hd : dt = .seq items n := hd
  subst hc hd
  refine callType_new F.called_enumerate (by decide) (F.typeCall_enumerate_1 _) (F.newCall_enumerate_1 _) (fun obj => F.args_object_init_2 obj _) F.entry_enumerate_new
    (meets_enumT l items n dct sl) ⟨hl, ?_⟩
  show _ ∧ _
  rw [Heap.size_push]
  exact ⟨⟨_, enum_made, rfl⟩, h⟩
theorem call_enumL {l : Addr} {items : Array Value} {Q : Value → Shared → Prop} (hL : s.heap.IsList l items)
    (h : Q (.ref (s.heap.objs.size + 1)) { s with heap := enumHeap s.heap { cls := .type "list_iterator", data := .fields #[.ref l, .int 0 0] } }) :
    wpAny (model prog w) A (call (.type "enumerate") [.ref l]) Q E s := by
  obtain ⟨⟨c, dct, dt, sl⟩, hl, hc, n, hd⟩ := hL
  replace hc : c = .type "list" := hc
  replace hd : dt = .seq items n := hd
  subst hc hd
  refine callType_new F.called_enumerate (by decide) (F.typeCall_enumerate_1 _) (F.newCall_enumerate_1 _) (fun obj => F.args_object_init_2 obj _) F.entry_enumerate_new
    (meets_enumerate_newL l items n dct sl) ⟨hl, ?_⟩
  show _ ∧ _
  rw [Heap.size_push]
  exact ⟨⟨_, enum_made, rfl⟩, h⟩
theorem call_enumB {b : Array UInt8} {t : Tok} {Q : Value → Shared → Prop}
    (h : Q (.ref (s.heap.objs.size + 1)) { s with heap := enumHeap s.heap { cls := .type "bytes_iterator", data := .fields #[.bytes b t, .int 0 0] } }) :
    wpAny (model prog w) A (call (.type "enumerate") [.bytes b t]) Q E s := by
  refine callType_new F.called_enumerate (by decide) (F.typeCall_enumerate_1 _) (F.newCall_enumerate_1 _) (fun obj => F.args_object_init_2 obj _) F.entry_enumerate_new
    (meets_enumB b t) ?_
  show _ ∧ _
  rw [Heap.size_push]
  exact ⟨⟨_, enum_made, rfl⟩, h⟩
end
end Mine
end
section
open PySem PySem.W PySem.Calls PyProof.Rows PySem.Spec PySem.Builtin
namespace Mine

theorem slot_bytes_index : Slot "bytes" "index" "bytes.index" :=
  .of (owner := "bytes") (n := "index") (by rw [typeLookup_type, builtinLookup_eq_fast]; kernel_rfl) (by decide +kernel) (by decide +kernel) (by decide +kernel)
    (by first | exact .inl (by decide +kernel) | exact .inr (by decide +kernel)) (by rw [isSubtype_type]; kernel_rfl)
theorem type_bytes_index : typeOf (.builtin "bytes.index") = pure (.type "method_descriptor") := by show builtinType _ = _; rw [builtinType_eq_fast]; kernel_rfl
theorem entry_bytes_index : entryFor table "bytes.index" = some Builtin.«bytes.index» := entryFor_of_tree (by kernel_rfl)
theorem args_bytes_index (a b : Value) : argsOk "bytes.index" ⟨[a, b], []⟩ := by
  unfold argsOk; rw [signature?_of (id := "bytes.index") (n := ['x', 'e', 'd', 'n', 'i']) (o := ['s', 'e', 't', 'y', 'b']) (by kernel_rfl) FB.owner_bytes]; kernel_rfl

theorem int_no_buffer : typeLookup (.type "int") "__buffer__" = pure none := by rw [typeLookup_type, builtinLookup_eq_fast]; kernel_rfl
theorem buffer_int {id : String} {i : Int} {u : Tok} : Bytes.buffer? id (.int i u) = pure none := by
  unfold Bytes.buffer?
  have e : specialOf (.int i u) "__buffer__" = pure none := by
    have e : specialOf (.int i u) "__buffer__" = typeLookup (.type "int") "__buffer__" := rfl
    rw [e, int_no_buffer]
  rw [e]
  rfl

theorem gives_bytes_index (b : Array UInt8) (t : Tok) (i : Int) (u : Tok) (k : Nat) (h0 : 0 ≤ i) (h1 : i < 256) (hb : 1 ≤ b.size) (hf : Bytes.find? b #[i.toNat.toUInt8] 0 b.size = some k) :
    Gives («bytes.index» ⟨[.bytes b t, .int i u], []⟩) (.int k) := by
  refine .of_wp fun M A E s Q hq => ?_
  show wpAny M A (Bytes.searchArgs .bytes "index" ⟨[.bytes b t, .int i u], []⟩ >>= fun r => _) _ E s
  refine wpAny_bind ?_
  unfold Bytes.searchArgs
  refine wpAny_bind (wpAny_of_eq (rfl : selfAndSome _ "index" 1 3 ⟨[.bytes b t, .int i u], []⟩ = pure (.bytes b t, [.int i u])) ?_)
  refine wpAny_bind (wpAny_of_eq (rfl : Bytes.bound? none = pure none) ?_)
  refine wpAny_bind (wpAny_of_eq (rfl : Bytes.bound? none = pure none) ?_)
  dsimp only [List.headD_cons]
  refine wpAny_bind (m := Bytes.buffer? _ _) (wpAny_of_eq buffer_int ?_)
  dsimp only
  refine wpAny_bind (wpAny_specialOf (T := "int") (typeIs_int _ _ _) F.slot_int_index.lookup ?_)
  simp only [Option.isNone_some, Bool.false_eq_true, if_false]
  refine wpAny_bind (wpAny_of_eq (rfl : Bytes.indexHeld [.bytes b t] (.int i u) = pure i) ?_)
  have n : (decide (i < 0) || decide (i ≥ 256)) = false := by simp; omega
  simp only [n, Bool.false_eq_true, if_false]
  refine wpAny_bind (wpAny_pure ?_)
  refine wpAny_bind (wpAny_of_eq (rfl : Bytes.payload (.bytes b t) = pure b) ?_)
  have w : Bytes.window b.size none none = (0, (b.size : Int)) := by
    have hz : ¬ ((b.size : Int) < 0) := by omega
    unfold Bytes.window; simp [hz]
  rw [w]
  have z : ¬ ((b.size : Int) - 0 < (#[i.toNat.toUInt8].size : Nat)) := by simp; omega
  simp only [z, if_false]
  refine wpAny_pure ?_
  simp only [Option.bind_some, Int.toNat_zero, Int.toNat_natCast, Bool.false_eq_true, if_false]
  rw [hf]
  exact wpAny_bind (wpAny_mkInt (wpAny_pure ⟨_, rfl, hq⟩))

theorem find_range (c : UInt8) : ∀ l : List UInt8, (List.range l.length).find? (fun i => l[i]? == some c) = l.findIdx? (· == c)
  | [] => rfl
  | x :: l => by
    rw [List.length_cons, List.range_succ_eq_map, List.find?_cons, List.findIdx?_cons]
    by_cases h : x = c
    · subst h; simp
    · have e1 : ((x :: l)[0]? == some c) = false := by simp [h]
      have e2 : (x == c) = false := by simp [h]
      rw [e1, e2]
      simp only [Bool.false_eq_true, if_false]
      rw [List.find?_map, ← find_range c l]
      congr 1

theorem find_one (l : List UInt8) (c : UInt8) : Bytes.find? l.toArray #[c] 0 l.toArray.size = l.findIdx? (· == c) := by
  rw [← find_range]
  unfold Bytes.find?
  have e : l.toArray.size + 1 - (0 + (#[c] : Array UInt8).size) = l.length := by simp
  rw [e]
  have m : (List.range l.length).map (· + 0) = List.range l.length := by simp
  rw [m]
  have pred : ∀ i ∈ List.range l.length, (l.toArray.extract i (i + (#[c] : Array UInt8).size) == #[c]) = (l[i]? == some c) := by
    intro i hi
    have hi := List.mem_range.mp hi
    have e2 : l.toArray.extract i (i + 1) = #[l[i]] := by
      apply Array.ext'
      simp [List.extract_eq_drop_take, List.take_one, List.head?_drop, hi]
    show (l.toArray.extract i (i + 1) == #[c]) = _
    rw [e2, List.getElem?_eq_getElem hi]
    by_cases h : l[i] = c <;> simp [h]
  generalize List.range l.length = r at pred
  induction r with
  | nil => rfl
  | cons i r ih =>
    rw [List.find?_cons, List.find?_cons, pred i (.head _), ih fun j hj => pred j (.tail _ hj)]


section
variable {prog : Program} {w : World} {A : Around} {E : Value → Shared → Prop} {s : Shared}
theorem call_bytes_index {l : List UInt8} {t : Tok} {i : Int} {u : Tok} {k : Nat} {Q : Value → Shared → Prop} (h0 : 0 ≤ i) (h1 : i < 256) (hf : l.findIdx? (· == UInt8.ofNat i.toNat) = some k) (h : Q (.int k s.toks) { s with toks := s.toks + 1 }) :
    wpAny (model prog w) A (call (.builtin "bytes.index") [.bytes l.toArray t, .int i u]) Q E s := by
  have hl : 1 ≤ l.toArray.size := by
    induction l using List.casesOn with
    | nil => cases hf
    | cons => simp
  exact call_gives slot_bytes_index (typeIs_bytes _ _ _) entry_bytes_index (args_bytes_index _ _) (gives_bytes_index l.toArray t i u k h0 h1 hl (by rw [find_one]; exact hf)) h

theorem call_split_kinds {x y : Str} {t u : Tok} {Q : Value → Shared → Prop} (hx : x = "ALL LEADING FIRST CHARACTERS") (hy : y = " ")
    (h : ∀ l k, l.map (·.1) = (["ALL", "LEADING", "FIRST", "CHARACTERS"] : List PySem.Str) → Q (.ref s.heap.objs.size) { s with heap := s.heap.push { cls := .type "list", data := .seq (strValues l).toArray }, toks := k }) :
    wpAny (model prog w) A (call (.builtin "str.split") [.str x t, .str y u]) Q E s := by
  subst hx hy
  refine call_meets F.slot_str_split (typeIs_str _ _ _) F.entry_str_split (F.args_str_split_2 _ _) (meets_str_split_sep _ _ t u (by decide +kernel) (by decide +kernel) (by decide +kernel) (by rw [sizeLine_eq]; decide +kernel) (by rw [sizeLine_eq]; decide +kernel)) ?_
  show wants Q E _ { s with toks := _, heap := s.heap.push { cls := .type "list", data := .seq (strsFrom s.toks (Builtin.Str.partsBetween _ (Builtin.Str.occurrences _ _ 0 _ _) _)).toArray } }
  rw [strsFrom_eq]
  refine h (numbered s.toks _) _ ((numbered_texts _ _).trans ?_)
  decide +kernel
end
end Mine
end
section
open PySem PySem.W PySem.Calls PyProof.Rows PySem.Spec
namespace Mine

noncomputable def BI.val : BI → Value
  | .len => .builtin "len" | .range => .type "range" | .int => .type "int" | .bytes => .type "bytes" | .list => .type "list" | .dict => .type "dict"
  | .tuple => .type "tuple" | .abs => .builtin "abs" | .sum => .builtin "sum" | .enumerate => .type "enumerate"

noncomputable abbrev Led := List (Addr × Obj)

mutual
/-- a value of the model stands for a value of the small interpreter: I holds the objects that nothing changes, μ the addresses of the store's places -/
inductive V (I : Led) (μ : List Addr) : Value → MV → Prop
  | none : V I μ .none .none
  | bool (b : Bool) : V I μ (.bool b) (.bool b)
  | int (i : Int) (t : Tok) : V I μ (.int i t) (.int i)
  | str (s : Str) (t : Tok) : V I μ (.str s t) (.str s)
  | bytes (b : List UInt8) (t : Tok) : b.length ≤ 2097152 → V I μ (.bytes b.toArray t) (.bytes b)
  | tup {a : Addr} {o : Obj} {vs : List Value} {xs : List MV} {n : Nat} : (a, o) ∈ I → o.cls = .type "tuple" → o.data = .seq vs.toArray n → VS I μ vs xs → xs.length ≤ 2097152 → V I μ (.ref a) (.tup xs)
  | lst {a : Addr} {o : Obj} {vs : List Value} {xs : List MV} {n : Nat} : (a, o) ∈ I → o.cls = .type "list" → o.data = .seq vs.toArray n → VS I μ vs xs → xs.length ≤ 2097152 → V I μ (.ref a) (.lst xs)
  | loc {a : Addr} {l : Nat} : μ[l]? = some a → V I μ (.ref a) (.loc l)
  | ins {x d : Addr} {C l : Nat} : (x, instObj C d) ∈ I → μ[l]? = some d → V I μ (.ref x) (.ins C l)
  | fn (a : Nat) : V I μ (.ref a) (.fn a)
  | cls (a : Nat) : V I μ (.ref a) (.cls a)
  | bi (b : BI) : V I μ b.val (.bi b)
  | lam {f c' : Addr} {oc : Obj} {qual : Str} {t : Tok} {vs : Array Value} {ps : Arguments} {body : Expr} {scope : Scope} {cl : List (Str × Addr)} {pm ctv : Value} {fre : List (Str × MV)} :
      (f, kla_obj "<lambda>" qual ps body scope cl pm c' ctv) ∈ I → (c', oc) ∈ I → oc.data = .fields vs → vs[1]? = some (.str qual t) → VF I μ cl fre → (∀ x, scope.names.lookup x = some .free → (cl.lookup x).isSome = true) → V I μ (.ref f) (.lam ps body scope fre)
  | rng {a : Addr} {x y z : Int} {t u v : Tok} : (a, ({ cls := .type "range", data := .fields #[.int x t, .int y u, .int z v] } : Obj)) ∈ I → V I μ (.ref a) (.rng x y z)
inductive VS (I : Led) (μ : List Addr) : List Value → List MV → Prop
  | nil : VS I μ [] []
  | cons {v : Value} {x : MV} {vs : List Value} {xs : List MV} : V I μ v x → VS I μ vs xs → VS I μ (v :: vs) (x :: xs)
inductive VF (I : Led) (μ : List Addr) : List (Str × Addr) → List (Str × MV) → Prop
  | nil {cl : List (Str × Addr)} : VF I μ cl []
  | cons {cl : List (Str × Addr)} {x : Str} {c : Addr} {o : Obj} {v : Value} {m : MV} {r : List (Str × MV)} : cl.lookup x = some c → (c, o) ∈ I → o.data = .cell (some v) → V I μ v m → VF I μ cl r → VF I μ cl ((x, m) :: r)
end

/-- what the value is, by the small interpreter's -/
noncomputable def VInv (I : Led) (μ : List Addr) (v : Value) : MV → Prop
  | .none => v = .none
  | .bool b => v = .bool b
  | .int i => ∃ t, v = .int i t
  | .str s => ∃ t, v = .str s t
  | .bytes b => ∃ t, v = .bytes b.toArray t ∧ b.length ≤ 2097152
  | .tup xs => ∃ (a : Addr) (o : Obj) (vs : List Value) (n : Nat), v = .ref a ∧ (a, o) ∈ I ∧ o.cls = .type "tuple" ∧ o.data = .seq vs.toArray n ∧ VS I μ vs xs ∧ xs.length ≤ 2097152
  | .lst xs => ∃ (a : Addr) (o : Obj) (vs : List Value) (n : Nat), v = .ref a ∧ (a, o) ∈ I ∧ o.cls = .type "list" ∧ o.data = .seq vs.toArray n ∧ VS I μ vs xs ∧ xs.length ≤ 2097152
  | .loc l => ∃ a, v = .ref a ∧ μ[l]? = some a
  | .ins C l => ∃ x d, v = .ref x ∧ (x, instObj C d) ∈ I ∧ μ[l]? = some d
  | .fn a => v = .ref a
  | .cls a => v = .ref a
  | .bi b => v = b.val
  | .lam ps body scope fre => ∃ (f c' : Addr) (oc : Obj) (qual : Str) (t : Tok) (vs : Array Value) (cl : List (Str × Addr)) (pm ctv : Value), v = .ref f ∧
      (f, kla_obj "<lambda>" qual ps body scope cl pm c' ctv) ∈ I ∧ (c', oc) ∈ I ∧ oc.data = .fields vs ∧ vs[1]? = some (.str qual t) ∧ VF I μ cl fre ∧ (∀ x, scope.names.lookup x = some .free → (cl.lookup x).isSome = true)
  | .rng x y z => ∃ (a : Addr) (t u w : Tok), v = .ref a ∧ (a, ({ cls := .type "range", data := .fields #[.int x t, .int y u, .int z w] } : Obj)) ∈ I
theorem V.inv {I : Led} {μ : List Addr} {v : Value} {m : MV} (h : V I μ v m) : VInv I μ v m :=
  V.casesOn (motive_1 := fun v m _ => VInv I μ v m) h rfl (fun _ => rfl) (fun _ t => ⟨t, rfl⟩) (fun _ t => ⟨t, rfl⟩) (fun _ t h => ⟨t, rfl, h⟩) (fun h c d r z => ⟨_, _, _, _, rfl, h, c, d, r, z⟩) (fun h c d r z => ⟨_, _, _, _, rfl, h, c, d, r, z⟩)
    (fun h => ⟨_, rfl, h⟩) (fun h g => ⟨_, _, rfl, h, g⟩) (fun _ => rfl) (fun _ => rfl) (fun _ => rfl) (fun h c d e r z => ⟨_, _, _, _, _, _, _, _, _, rfl, h, c, d, e, r, z⟩) (fun h => ⟨_, _, _, _, rfl, h⟩)
noncomputable def VSInv (I : Led) (μ : List Addr) (vs : List Value) : List MV → Prop
  | [] => vs = []
  | x :: xs => ∃ v r, vs = v :: r ∧ V I μ v x ∧ VS I μ r xs
theorem VS.inv {I : Led} {μ : List Addr} {vs : List Value} {xs : List MV} (h : VS I μ vs xs) : VSInv I μ vs xs :=
  VS.casesOn (motive_2 := fun vs xs _ => VSInv I μ vs xs) h rfl fun h r => ⟨_, _, rfl, h, r⟩
theorem ifBool {α : Type} {v : MV} {f : Bool → Option α} {r : α} (h : (match v with | .bool b => f b | _ => Option.none) = some r) : ∃ b, v = .bool b ∧ f b = some r := by
  induction v using MV.casesOn with
  | bool b => exact ⟨b, rfl, h⟩
  | _ => exact no_some h
theorem ifInt {α : Type} {v : MV} {f : Int → Option α} {r : α} (h : (match v with | .int b => f b | _ => Option.none) = some r) : ∃ b, v = .int b ∧ f b = some r := by
  induction v using MV.casesOn with
  | int b => exact ⟨b, rfl, h⟩
  | _ => exact no_some h
theorem ifStr {α : Type} {v : MV} {f : Str → Option α} {r : α} (h : (match v with | .str b => f b | _ => Option.none) = some r) : ∃ b, v = .str b ∧ f b = some r := by
  induction v using MV.casesOn with
  | str b => exact ⟨b, rfl, h⟩
  | _ => exact no_some h
theorem some3 {α β γ : Type} {a c : α} {b d : β} {e f : γ} (h : some (a, b, e) = some (c, d, f)) : a = c ∧ b = d ∧ e = f := ⟨congrArg (·.1) (Option.some.inj h), congrArg (·.2.1) (Option.some.inj h), congrArg (·.2.2) (Option.some.inj h)⟩
theorem some2 {α β : Type} {a c : α} {b d : β} (h : some (a, b) = some (c, d)) : a = c ∧ b = d := ⟨congrArg Prod.fst (Option.some.inj h), congrArg Prod.snd (Option.some.inj h)⟩

section
variable {I I' : Led} {μ μ' : List Addr}
theorem V.mono (hI : ∀ p ∈ I, p ∈ I') (hμ : ∀ (l : Nat) (a : Addr), μ[l]? = some a → μ'[l]? = some a) {v : Value} {m : MV} (h : V I μ v m) : V I' μ' v m :=
  V.rec (motive_1 := fun v m _ => V I' μ' v m) (motive_2 := fun v m _ => VS I' μ' v m) (motive_3 := fun v m _ => VF I' μ' v m)
    .none .bool .int .str .bytes (fun h c d _ z r => .tup (hI _ h) c d r z) (fun h c d _ z r => .lst (hI _ h) c d r z) (fun h => .loc (hμ _ _ h)) (fun h g => .ins (hI _ h) (hμ _ _ g)) .fn .cls .bi
    (fun h c d e _ z r => .lam (hI _ h) (hI _ c) d e r z) (fun h => .rng (hI _ h)) .nil (fun _ _ h r => .cons h r) .nil (fun a b c _ _ d r => .cons a (hI _ b) c d r) h
theorem VS.ind {P : List Value → List MV → Prop} (h0 : P [] []) (h1 : ∀ {v x vs xs}, V I μ v x → VS I μ vs xs → P vs xs → P (v :: vs) (x :: xs)) {vs : List Value} {xs : List MV} (h : VS I μ vs xs) : P vs xs :=
  VS.rec (motive_1 := fun _ _ _ => True) (motive_2 := fun v m _ => P v m) (motive_3 := fun _ _ _ => True)
    trivial (fun _ => trivial) (fun _ _ => trivial) (fun _ _ => trivial) (fun _ _ _ => trivial) (fun _ _ _ _ _ _ => trivial) (fun _ _ _ _ _ _ => trivial) (fun _ => trivial) (fun _ _ => trivial) (fun _ => trivial) (fun _ => trivial) (fun _ => trivial)
    (fun _ _ _ _ _ _ _ => trivial) (fun _ => trivial) h0 (fun a b _ r => h1 a b r) trivial (fun _ _ _ _ _ _ _ => trivial) h
theorem VF.ind {cl : List (Str × Addr)} {P : List (Str × MV) → Prop} (h0 : P [])
    (h1 : ∀ {x c o v m r}, cl.lookup x = some c → (c, o) ∈ I → o.data = .cell (some v) → V I μ v m → VF I μ cl r → P r → P ((x, m) :: r)) {r : List (Str × MV)} (h : VF I μ cl r) : P r :=
  VF.rec (motive_1 := fun _ _ _ => True) (motive_2 := fun _ _ _ => True) (motive_3 := fun c r _ => c = cl → P r)
    trivial (fun _ => trivial) (fun _ _ => trivial) (fun _ _ => trivial) (fun _ _ _ => trivial) (fun _ _ _ _ _ _ => trivial) (fun _ _ _ _ _ _ => trivial) (fun _ => trivial) (fun _ _ => trivial) (fun _ => trivial) (fun _ => trivial) (fun _ => trivial)
    (fun _ _ _ _ _ _ _ => trivial) (fun _ => trivial) trivial (fun _ _ _ _ => trivial) (fun _ => h0) (fun a b c d r _ q e => by subst e; exact h1 a b c d r (q rfl)) h rfl
theorem VS.mono (hI : ∀ p ∈ I, p ∈ I') (hμ : ∀ (l : Nat) (a : Addr), μ[l]? = some a → μ'[l]? = some a) {v : List Value} {m : List MV} (h : VS I μ v m) : VS I' μ' v m :=
  h.ind .nil fun a _ r => .cons (a.mono hI hμ) r
theorem VF.mono (hI : ∀ p ∈ I, p ∈ I') (hμ : ∀ (l : Nat) (a : Addr), μ[l]? = some a → μ'[l]? = some a) {v : List (Str × Addr)} {m : List (Str × MV)} (h : VF I μ v m) : VF I' μ' v m :=
  h.ind .nil fun a b c d _ r => .cons a (hI _ b) c (d.mono hI hμ) r
end

section
variable {I : Led} {μ : List Addr} {vs : List Value} {xs : List MV}
theorem VS.length (h : VS I μ vs xs) : vs.length = xs.length := h.ind (P := fun vs xs => vs.length = xs.length) rfl fun _ _ e => congrArg (· + 1) e
theorem VS.get (h : VS I μ vs xs) : ∀ {i : Nat} {x : MV}, xs[i]? = some x → ∃ v, vs[i]? = some v ∧ V I μ v x :=
  h.ind (P := fun vs xs => ∀ {i : Nat} {x : MV}, xs[i]? = some x → ∃ v, vs[i]? = some v ∧ V I μ v x) (fun {i x} e => nomatch (show Option.none = some x from e)) fun {v y vs xs} a _ r {i x} e => by
    induction i using Nat.casesOn with
    | zero => exact ⟨v, rfl, Option.some.inj (show some y = some x from e) ▸ a⟩
    | succ i => exact r (i := i) e
theorem VS.append {ws : List Value} {ys : List MV} (h : VS I μ vs xs) (s : VS I μ ws ys) : VS I μ (vs ++ ws) (xs ++ ys) := h.ind (P := fun vs xs => VS I μ (vs ++ ws) (xs ++ ys)) s fun a _ r => .cons a r
theorem VS.drop (h : VS I μ vs xs) : ∀ n, VS I μ (vs.drop n) (xs.drop n) :=
  h.ind (P := fun vs xs => ∀ n, VS I μ (vs.drop n) (xs.drop n)) (fun n => by cases n <;> exact .nil) fun a h r n => by
    induction n using Nat.casesOn with
    | zero => exact .cons a h
    | succ n => exact r n
theorem VS.take (h : VS I μ vs xs) : ∀ n, VS I μ (vs.take n) (xs.take n) :=
  h.ind (P := fun vs xs => ∀ n, VS I μ (vs.take n) (xs.take n)) (fun n => by cases n <;> exact .nil) fun a _ r n => by
    induction n using Nat.casesOn with
    | zero => exact .nil
    | succ n => exact .cons a (r n)
theorem VS.set (h : VS I μ vs xs) : ∀ (n : Nat) {v : Value} {x : MV}, V I μ v x → VS I μ (vs.set n v) (xs.set n x) :=
  h.ind (P := fun vs xs => ∀ (n : Nat) {v : Value} {x : MV}, V I μ v x → VS I μ (vs.set n v) (xs.set n x)) (fun _ _ _ _ => .nil) fun a h r n _ _ q => by
    induction n using Nat.casesOn with
    | zero => exact .cons q h
    | succ n => exact .cons a (r n q)
end

/-- what stands still: the program, the world, the heap after the top and the script, the one table that grows -/
structure Base where
  prog : Program
  w : World
  P : MP
  hb : Heap
  tab : Addr
  tabC : Addr
  mg : Str → Option Value
  mb : Str → Option Value

noncomputable abbrev Base.M (B : Base) : Model := model B.prog B.w

noncomputable def lamQual : Str := "_law_hands" ++ ".<locals>." ++ "<lambda>"

structure TabOk (B : Base) (I : Led) (h : Heap) : Prop where
  at_ : ∃ ps : Array Value, h.get? B.tab = some (tabObj ps) ∧ TriplesOk ps.toList ∧
    ∀ pos cv, codeAmong pos ps.toList = some cv → ∃ c' oc vs t, cv = .ref c' ∧ (c', oc) ∈ I ∧ oc.data = .fields vs ∧ vs[1]? = some (.str lamQual t)

inductive VD (I : Led) (μ : List Addr) : List (Str × Value) → List (Str × MV) → Prop
  | nil : VD I μ [] []
  | cons {k : Str} {v : Value} {m : MV} {r : List (Str × Value)} {q : List (Str × MV)} : V I μ v m → VD I μ r q → VD I μ ((k, v) :: r) ((k, m) :: q)
inductive VE (I : Led) (μ : List Addr) : List DictEntry → List (Str × MV) → Prop
  | nil : VE I μ [] []
  | cons {hs : Int} {k : Str} {t : Tok} {v : Value} {m : MV} {r : List DictEntry} {q : List (Str × MV)} : V I μ v m → VE I μ r q → VE I μ (⟨hs, .str k t, v⟩ :: r) ((k, m) :: q)

noncomputable def OH (B : Base) (I : Led) (μ : List Addr) (h : Heap) (a : Addr) : MO → Prop
  | .list xs => ∃ vs n, h.get? a = some (listOf (List.toArray vs) n) ∧ VS I μ vs xs ∧ xs.length ≤ 2097152
  | .dict es => (a ≠ sysModules ∧ es.length ≤ 1000) ∧ ∃ kvs, h.DictOf (strKind B.prog B.w) a kvs ∧ VD I μ kvs es
  | .inst fs => ∃ es n, h.get? a = some (dictOf es n) ∧ VE I μ es fs

theorem OH.live {B : Base} {I : Led} {μ : List Addr} {h : Heap} {a : Addr} : ∀ {mo : MO}, OH B I μ h a mo → ∃ o, h.get? a = some o
  | .list _, q => q.elim fun _ q => q.elim fun _ q => ⟨_, q.1⟩
  | .dict _, q => q.2.elim fun _ q => q.1.elim fun o q => q.elim fun _ q => q.elim fun _ q => ⟨o, q.1⟩
  | .inst _, q => q.elim fun _ q => q.elim fun _ q => ⟨_, q.1⟩

theorem VD.mono {I I' : Led} {μ μ' : List Addr} (hI : ∀ p ∈ I, p ∈ I') (hμ : ∀ (l : Nat) (a : Addr), μ[l]? = some a → μ'[l]? = some a) {x : List (Str × Value)} {y : List (Str × MV)} (h : VD I μ x y) : VD I' μ' x y := by
  induction h with
  | nil => exact .nil
  | cons h _ ih => exact .cons (h.mono hI hμ) ih
theorem VE.mono {I I' : Led} {μ μ' : List Addr} (hI : ∀ p ∈ I, p ∈ I') (hμ : ∀ (l : Nat) (a : Addr), μ[l]? = some a → μ'[l]? = some a) {x : List DictEntry} {y : List (Str × MV)} (h : VE I μ x y) : VE I' μ' x y := by
  induction h with
  | nil => exact .nil
  | cons h _ ih => exact .cons (h.mono hI hμ) ih
theorem OH.mono {B : Base} {I I' : Led} {μ μ' : List Addr} {h h' : Heap} {a : Addr} (hI : ∀ p ∈ I, p ∈ I') (hμ : ∀ (l : Nat) (a : Addr), μ[l]? = some a → μ'[l]? = some a)
    (hk : ∀ o, h.get? a = some o → h'.get? a = some o) : ∀ {mo : MO}, OH B I μ h a mo → OH B I' μ' h' a mo
  | .list _, q => q.elim fun vs q => q.elim fun n q => ⟨vs, n, hk _ q.1, q.2.1.mono hI hμ, q.2.2⟩
  | .dict _, q => ⟨q.1, q.2.elim fun kvs q => ⟨kvs, q.1.at hk, q.2.mono hI hμ⟩⟩
  | .inst _, q => q.elim fun es q => q.elim fun n q => ⟨es, n, hk _ q.1, q.2.mono hI hμ⟩

structure GoodH (B : Base) (μ : List Addr) (I : Led) (st : St) (h : Heap) : Prop where
  base : ∀ b o, B.hb.get? b = some o → h.get? b = some o
  imm : ∀ p ∈ I, h.get? p.1 = some p.2
  len : μ.length = st.length
  rep : ∀ (l : Nat) (a : Addr) (mo : MO), μ[l]? = some a → st[l]? = some mo → OH B I μ h a mo
  nodup : μ.Nodup
  offB : ∀ a ∈ μ, B.hb.get? a = none
  offI : ∀ a ∈ μ, ∀ p ∈ I, p.1 ≠ a
  offT : B.tab ∉ μ
  tabI : ∀ p ∈ I, p.1 ≠ B.tab
  tab : TabOk B I h

/-- from one state to a later one: what is not the store's, not the table, not the frame's own, stands -/
structure Ext (B : Base) (own : List Addr) (μ : List Addr) (I : Led) (h : Heap) (μ' : List Addr) (I' : Led) (h' : Heap) : Prop where
  pre : ∃ t, μ' = μ ++ t
  sub : ∀ p ∈ I, p ∈ I'
  keep : ∀ b o, h.get? b = some o → b ∉ μ → b ≠ B.tab → b ∉ own → h'.get? b = some o
  live : ∀ b o, h.get? b = some o → ∃ o', h'.get? b = some o'
  newμ : ∀ a ∈ μ', a ∈ μ ∨ h.get? a = none
  newI : ∀ p ∈ I', p ∈ I ∨ h.get? p.1 = none

theorem Ext.refl {B : Base} {own μ : List Addr} {I : Led} {h : Heap} : Ext B own μ I h μ I h :=
  ⟨⟨[], by simp⟩, fun _ e => e, fun _ _ e _ _ _ => e, fun _ o e => ⟨o, e⟩, fun _ e => .inl e, fun _ e => .inl e⟩

theorem Ext.get {B : Base} {own μ μ' : List Addr} {I I' : Led} {h h' : Heap} (x : Ext B own μ I h μ' I' h') (l : Nat) (a : Addr) (e : μ[l]? = some a) : μ'[l]? = some a := by
  obtain ⟨t, rfl⟩ := x.pre
  rw [List.getElem?_append_left (List.getElem?_eq_some_iff.mp e).1]; exact e
theorem Ext.mem {B : Base} {own μ μ' : List Addr} {I I' : Led} {h h' : Heap} (x : Ext B own μ I h μ' I' h') {a : Addr} (e : a ∈ μ) : a ∈ μ' := by
  obtain ⟨t, rfl⟩ := x.pre
  exact List.mem_append_left _ e

theorem Ext.trans {B : Base} {own μ μ₁ μ₂ : List Addr} {I I₁ I₂ : Led} {h h₁ h₂ : Heap} (x : Ext B own μ I h μ₁ I₁ h₁) (y : Ext B own μ₁ I₁ h₁ μ₂ I₂ h₂) : Ext B own μ I h μ₂ I₂ h₂ := by
  have old : ∀ b, h₁.get? b = none → h.get? b = none := fun b e => by
    cases q : h.get? b with
    | none => rfl
    | some o => obtain ⟨o', e'⟩ := x.live b o q; rw [e] at e'; cases e'
  refine ⟨?_, fun p e => y.sub p (x.sub p e), fun b o e hm ht ho => ?_, fun b o e => ?_, fun a e => ?_, fun p e => ?_⟩
  · obtain ⟨t, rfl⟩ := x.pre
    obtain ⟨u, rfl⟩ := y.pre
    exact ⟨t ++ u, List.append_assoc ..⟩
  · refine y.keep b o (x.keep b o e hm ht ho) (fun hm' => ?_) ht ho
    rcases x.newμ b hm' with q | q
    · exact hm q
    · rw [e] at q; cases q
  · obtain ⟨o', e'⟩ := x.live b o e
    exact y.live b o' e'
  · rcases y.newμ a e with q | q
    · exact x.newμ a q
    · exact .inr (old a q)
  · rcases y.newI p e with q | q
    · exact x.newI p q
    · exact .inr (old _ q)

theorem Ext.weak {B : Base} {own own' μ μ' : List Addr} {I I' : Led} {h h' : Heap} (x : Ext B own μ I h μ' I' h') (ho : ∀ a ∈ own, a ∈ own' ∨ h.get? a = none) : Ext B own' μ I h μ' I' h' :=
  ⟨x.pre, x.sub, fun b o e hm ht hn => x.keep b o e hm ht fun q => by
    rcases ho b q with z | z
    · exact hn z
    · (rw [e] at z; cases z), x.live, x.newμ, x.newI⟩
end Mine
end
section
open PySem PySem.W PySem.Calls PyProof.Rows PySem.Spec
namespace Mine

theorem lookup_zip_map : ∀ (names : List Str) (vals : List Value) (pre : List (Str × Value)), names.Nodup → names.length = vals.length → (∀ n ∈ names, pre.lookup n = none) →
    (names.filterMap fun n => ((pre ++ names.zip vals).lookup n).map (n, ·)) = names.zip vals := by
  intro names
  induction names with
  | nil => exact fun _ _ _ _ _ => rfl
  | cons n ns ih =>
    intro vals pre hn hl hp
    obtain ⟨v, vs, rfl⟩ := List.exists_cons_of_length_eq_add_one hl.symm
    obtain ⟨h1, h2⟩ := List.nodup_cons.mp hn
    have e : (pre ++ (n :: ns).zip (v :: vs)).lookup n = some v := by
      rw [List.lookup_append, hp n (.head _)]
      simp [List.zip_cons_cons]
    rw [List.filterMap_cons, e]
    simp only [Option.map_some, List.zip_cons_cons]
    congr 1
    have ih := ih vs (pre ++ [(n, v)]) h2 (by simpa using hl) (fun m hm => by
      rw [List.lookup_append, hp m (.tail _ hm)]
      have : m ≠ n := fun q => h1 (q ▸ hm)
      simp [List.lookup, beq_eq_false_iff_ne.mpr this])
    rw [List.append_assoc] at ih
    exact ih

theorem isEmpty_eq {α : Type} {l : List α} (h : l.isEmpty = true) : l = [] := List.isEmpty_iff.mp h
theorem isNone_eq {α : Type} {l : Option α} (h : l.isNone = true) : l = none := by induction l using Option.casesOn with | none => rfl | some _ => cases h

theorem lookup_zip_some : ∀ (names : List Str) (vals : List Value), names.length = vals.length → ∀ n ∈ names, ((names.zip vals).lookup n).isNone = false
  | [], _, _, _, h => nomatch h
  | m :: ns, [], h, _, _ => by simp at h
  | m :: ns, v :: vs, h, n, hn => by
    rw [List.zip_cons_cons, List.lookup_cons]
    cases q : n == m with
    | true => rfl
    | false =>
      rcases List.mem_cons.mp hn with e | e
      · rw [e] at q; simp at q
      · exact lookup_zip_some ns vs (by simpa using h) n e

theorem lookup_found {names : List Str} {vals : List Value} (hl : names.length = vals.length) (k : Nat) : ((names.take k).filter fun n => ((names.zip vals).lookup n).isNone) = [] :=
  List.filter_eq_nil_iff.mpr fun n hn h => Bool.false_ne_true ((lookup_zip_some names vals hl n (List.mem_of_mem_take hn)).symm.trans h)
theorem zip_drop {α β : Type} (l : List α) (m k : Nat) : (l.drop k).zip (([] : List β).drop m) = [] := by rw [List.drop_nil, List.zip_nil_right]
theorem forIn_none {α β γ : Type} {L : List α} {s : β} {f : α → β → Sem (ForInStep β)} {g : β → Sem γ} {r : Sem γ} (h : L = []) (k : g s = r) : (forIn L s f >>= g) = r := by
  rw [h]; exact k
theorem params_eq {p : Arguments} (h1 : p.posonlyargs = []) (h2 : p.vararg = none) (h3 : p.kwonlyargs = []) (h4 : p.kw_defaults = []) (h5 : p.kwarg = none) (h6 : p.defaults = []) : p = ⟨[], p.args, none, [], [], none, []⟩ := by
  obtain ⟨a, b, c, d, e, f, g⟩ := p
  rw [show a = [] from h1, show c = none from h2, show d = [] from h3, show e = [] from h4, show f = none from h5, show g = [] from h6]
theorem bind_lit {vals : List Value} {args : List Arg} {fd : FuncData} (hl : (args.map (·.arg)).length = vals.length) (h7 : (args.map (·.arg)).Nodup) :
    bindArgs ⟨fd.name, fd.qualname, ⟨[], args, none, [], [], none, []⟩, fd.body, fd.scope, fd.globals, fd.closure, .none, fd.kwdefaults, fd.doc, fd.pyModule, fd.annotations, fd.code, fd.closureTuple, fd.builtins⟩ ⟨vals, []⟩ = pure ((args.map (·.arg)).zip vals) := by
  refine Eq.trans (if_neg fun h => ?_) (Eq.trans (if_neg fun h => ?_) ?_)
  · have h : (decide (vals.length > (args.map (·.arg)).length) && true) = true := h
    rw [Bool.and_true, decide_eq_true_eq, hl] at h
    exact Nat.lt_irrefl _ h
  · have h : (!(((args.map (·.arg)).take ((args.map (·.arg)).length - (List.drop (0 - (args.map (·.arg)).length) ([] : List Value)).length)).filter fun n => (((args.map (·.arg)).zip vals).lookup n).isNone).isEmpty) = true := h
    rw [lookup_found hl] at h
    exact Bool.false_ne_true h
  · refine forIn_none (zip_drop (args.map (·.arg)) _ _) ?_
    have z := lookup_zip_map (args.map (·.arg)) vals [] h7 hl (fun _ _ => rfl)
    refine (congrArg (fun L => (pure (List.filterMap (fun n => Option.map (fun x => (n, x)) (List.lookup n ((args.map (·.arg)).zip vals))) L) : Sem (List (Str × Value)))) (List.append_nil (args.map (·.arg)))).trans ?_
    exact congrArg pure z
theorem bindArgs_plain {fd : FuncData} {vals : List Value} (hd : fd.defaults = .none) (hp : plainParams fd.params = true) (hl : fd.params.args.length = vals.length) :
    bindArgs fd ⟨vals, []⟩ = pure ((fd.params.args.map (·.arg)).zip vals) := by
  have hp : (fd.params.posonlyargs.isEmpty && fd.params.vararg.isNone && fd.params.kwonlyargs.isEmpty && fd.params.kw_defaults.isEmpty && fd.params.kwarg.isNone && fd.params.defaults.isEmpty && decide ((fd.params.args.map (·.arg)).Nodup)) = true := hp
  simp only [Bool.and_eq_true] at hp
  obtain ⟨⟨⟨⟨⟨⟨h1, h2⟩, h3⟩, h4⟩, h5⟩, h6⟩, h7⟩ := hp
  have e : (fd.params, fd.defaults) = ((⟨[], fd.params.args, none, [], [], none, []⟩ : Arguments), Value.none) := Prod.ext (params_eq (isEmpty_eq h1) (isNone_eq h2) (isEmpty_eq h3) (isEmpty_eq h4) (isNone_eq h5) (isEmpty_eq h6)) hd
  exact (congrArg (fun p : Arguments × Value => bindArgs ⟨fd.name, fd.qualname, p.1, fd.body, fd.scope, fd.globals, fd.closure, p.2, fd.kwdefaults, fd.doc, fd.pyModule, fd.annotations, fd.code, fd.closureTuple, fd.builtins⟩ ⟨vals, []⟩) e).trans (bind_lit ((List.length_map _).trans hl) (of_decide_eq_true h7))
end Mine
end
section
open PySem PySem.W PySem.Calls PyProof.Rows PySem.Spec
namespace Mine

noncomputable def Room (A : Around) (n : Nat) : Prop := A.handled = none ∧ A.depth + 2 * n + 2 ≤ recursionLimit ∧ A.units + 10 * n + 20 ≤ cLine
theorem Room.le {A : Around} {n m : Nat} (h : Room A n) (l : m ≤ n) : Room A m := ⟨h.1, by have := h.2.1; omega, by have := h.2.2; omega⟩
theorem Room.hh {A : Around} {n : Nat} (h : Room A n) : A.handled = none := h.1
theorem Room.units {A : Around} {n : Nat} (h : Room A n) : A.units < cLine := by have := h.2.2; omega
theorem Room.depth {A : Around} {n : Nat} (h : Room A n) : A.depth < recursionLimit := by have := h.2.1; omega

structure Le (μ : List Addr) (I : Led) (μ' : List Addr) (I' : Led) : Prop where
  sub : ∀ p ∈ I, p ∈ I'
  get : ∀ (l : Nat) (a : Addr), μ[l]? = some a → μ'[l]? = some a
theorem Le.refl {μ : List Addr} {I : Led} : Le μ I μ I := ⟨fun _ e => e, fun _ _ e => e⟩
theorem Le.trans {μ μ₁ μ₂ : List Addr} {I I₁ I₂ : Led} (x : Le μ I μ₁ I₁) (y : Le μ₁ I₁ μ₂ I₂) : Le μ I μ₂ I₂ := ⟨fun p e => y.sub p (x.sub p e), fun l a e => y.get l a (x.get l a e)⟩
theorem Le.V {μ μ' : List Addr} {I I' : Led} (x : Le μ I μ' I') {v : Value} {m : MV} (h : V I μ v m) : V I' μ' v m := h.mono x.sub x.get
theorem Le.VS {μ μ' : List Addr} {I I' : Led} (x : Le μ I μ' I') {v : List Value} {m : List MV} (h : VS I μ v m) : VS I' μ' v m := h.mono x.sub x.get
theorem Ext.le {B : Base} {own μ μ' : List Addr} {I I' : Led} {h h' : Heap} (x : Ext B own μ I h μ' I' h') : Le μ I μ' I' := ⟨x.sub, x.get⟩

noncomputable def ownOf (env : Env) (me : ME) : List Addr := env.locals :: (env.cells.filter fun p => me.own p.1).map (·.2)

structure FrOk (B : Base) (env : Env) (me : ME) (lc : Lc) (μ : List Addr) (I : Led) (h : Heap) : Prop where
  sc : env.scope = me.scope
  kf : me.scope.kind = .function
  nd : me.kind "__debug__" = none
  nc : me.kind "__classdict__" = none
  gl : env.globals = mainGlobals
  bu : env.builtins = builtinsNs
  ab : B.hb.objs.size ≤ env.locals
  ns : ∃ m, h.Ns env.locals m ∧ ∀ x mv, me.kind x = some .local → lc x = some mv → ∃ v, m x = some v ∧ V I μ v mv
  lk : ∀ x, me.kind x = some .cell ∨ me.kind x = some .free → (env.cells.lookup x).isSome = true
  cel : ∀ x, me.own x = true → me.kind x = some .cell ∧ ∃ c u, env.cells.lookup x = some c ∧ h.IsCell c u ∧ ∀ mv, lc x = some mv → ∃ v, u = some v ∧ V I μ v mv
  apart : ∀ x y c, me.own x = true → me.own y = true → env.cells.lookup x = some c → env.cells.lookup y = some c → x = y
  fre : ∀ x mv, me.fre x = some mv → me.own x = false ∧ ∃ c v, env.cells.lookup x = some c ∧ h.IsCell c (some v) ∧ V I μ v mv ∧ c ∉ ownOf env me
  nl : ∀ x c, me.own x = true → env.cells.lookup x = some c → c ≠ env.locals
  offM : ∀ a ∈ ownOf env me, a ∉ μ
  offI : ∀ a ∈ ownOf env me, ∀ p ∈ I, p.1 ≠ a
  offT : B.tab ∉ ownOf env me
  offB : ∀ a ∈ ownOf env me, B.hb.get? a = none
  live : ∀ a ∈ ownOf env me, ∃ o, h.get? a = some o
  lam : me.lam = true → env.code = .ref B.tabC ∧ env.qual ++ "<lambda>" = lamQual ∧ ∀ x mv, me.fre x = some mv → ∃ c o v, env.cells.lookup x = some c ∧ (c, o) ∈ I ∧ o.data = .cell (some v) ∧ V I μ v mv

theorem own_cell {env : Env} {me : ME} {x : Str} {c : Addr} (ho : me.own x = true) (hc : env.cells.lookup x = some c) : c ∈ ownOf env me :=
  List.mem_cons_of_mem _ (List.mem_map.mpr ⟨(x, c), List.mem_filter.mpr ⟨mem_of_lookup hc, ho⟩, rfl⟩)
theorem own_locals {env : Env} {me : ME} : env.locals ∈ ownOf env me := .head _

/-- a cell is no place of the store -/
theorem GoodH.off_cell {B : Base} {μ : List Addr} {I : Led} {st : St} {h : Heap} (G : GoodH B μ I st h) {c : Addr} {u : Option Value} (hc : h.IsCell c u) : c ∉ μ ∧ c ≠ B.tab := by
  obtain ⟨o, ho, hd⟩ := hc
  refine ⟨fun hm => ?_, fun e => ?_⟩
  · obtain ⟨l, hl, he⟩ := List.getElem_of_mem hm
    have hl' : l < st.length := G.len ▸ hl
    have r := G.rep l c st[l] (by rw [List.getElem?_eq_getElem hl, he]) (by rw [List.getElem?_eq_getElem hl'])
    cases q : st[l] with
    | list xs =>
      rw [q] at r
      obtain ⟨vs, n, ho', _⟩ := r
      rw [ho] at ho'; cases ho'
      cases hd
    | dict xs =>
      rw [q] at r
      obtain ⟨_, kvs, ⟨o', es, ep, ho', _, hd', _⟩, _⟩ := r
      rw [ho] at ho'; cases ho'
      rw [hd] at hd'; cases hd'
    | inst xs =>
      rw [q] at r
      obtain ⟨es, n, ho', _⟩ := r
      rw [ho] at ho'; cases ho'
      cases hd
  · obtain ⟨ps, ht, _⟩ := G.tab.at_
    rw [← e, ho] at ht; cases ht
    cases hd

theorem FrOk.ext {B : Base} {env : Env} {me : ME} {lc : Lc} {μ μ' : List Addr} {I I' : Led} {h h' : Heap} {st : St} (F : FrOk B env me lc μ I h) (G : GoodH B μ I st h) (x : Ext B [] μ I h μ' I' h') : FrOk B env me lc μ' I' h' := by
  have kp : ∀ b, b ∈ ownOf env me → ∀ o, h.get? b = some o → h'.get? b = some o := fun b hb o e => x.keep b o e (F.offM b hb) (fun q => F.offT (q ▸ hb)) (fun q => nomatch q)
  have kc : ∀ {c u}, h.IsCell c u → h'.IsCell c u := fun {c u} hc => by
    obtain ⟨a, b⟩ := G.off_cell hc
    obtain ⟨o, ho, hd⟩ := hc
    exact ⟨o, x.keep c o ho a b (fun q => nomatch q), hd⟩
  refine ⟨F.sc, F.kf, F.nd, F.nc, F.gl, F.bu, F.ab, ?_, F.lk, fun y hy => ?_, F.apart, fun y mv hy => ?_, F.nl, fun a ha hm => ?_, fun a ha p hp e => ?_, F.offT, F.offB, fun a ha => ?_, fun hl => ?_⟩
  · obtain ⟨m, hn, hv⟩ := F.ns
    exact ⟨m, hn.at' (kp _ own_locals), fun y mv hk hl => let ⟨v, h1, h2⟩ := hv y mv hk hl; ⟨v, h1, x.le.V h2⟩⟩
  · obtain ⟨hk, c, u, h1, h2, h3⟩ := F.cel y hy
    exact ⟨hk, c, u, h1, kc h2, fun mv hm => let ⟨v, e, hv⟩ := h3 mv hm; ⟨v, e, x.le.V hv⟩⟩
  · obtain ⟨h0, c, v, h1, h2, h3, h4⟩ := F.fre y mv hy
    exact ⟨h0, c, v, h1, kc h2, x.le.V h3, h4⟩
  · rcases x.newμ a hm with q | q
    · exact F.offM a ha q
    · obtain ⟨o, ho⟩ := F.live a ha
      rw [ho] at q; cases q
  · rcases x.newI p hp with q | q
    · exact F.offI a ha p q e
    · obtain ⟨o, ho⟩ := F.live a ha
      rw [e, ho] at q; cases q
  · obtain ⟨o, ho⟩ := F.live a ha
    exact ⟨o, kp a ha o ho⟩
  · obtain ⟨h1, h2, h3⟩ := F.lam hl
    exact ⟨h1, h2, fun y mv hy => let ⟨c, o, v, a, b, d, e⟩ := h3 y mv hy; ⟨c, o, v, a, x.sub _ b, d, x.le.V e⟩⟩

/-- the state s, reached from s₀ -/
structure At (B : Base) (env : Env) (me : ME) (lc : Lc) (st : St) (μ : List Addr) (I : Led) (s₀ : Shared) (μ₀ : List Addr) (I₀ : Led) (s : Shared) : Prop where
  same : s = { s₀ with heap := s.heap, toks := s.toks }
  ext : Ext B (ownOf env me) μ₀ I₀ s₀.heap μ I s.heap
  good : GoodH B μ I st s.heap
  fr : FrOk B env me lc μ I s.heap

section
variable {B : Base} {env : Env} {me : ME} {lc lc' : Lc} {st st' : St} {μ μ' μ₀ : List Addr} {I I' I₀ : Led} {s s' s₀ : Shared}
theorem At.here (G : GoodH B μ I st s.heap) (F : FrOk B env me lc μ I s.heap) : At B env me lc st μ I s μ I s := ⟨rfl, Ext.refl, G, F⟩
theorem At.start (X : At B env me lc st μ I s₀ μ₀ I₀ s) : At B env me lc st μ I s μ I s := At.here X.good X.fr
theorem At.trans (X : At B env me lc st μ I s₀ μ₀ I₀ s) (Y : At B env me lc' st' μ' I' s μ I s') : At B env me lc' st' μ' I' s₀ μ₀ I₀ s' :=
  ⟨by rw [Y.same, X.same], X.ext.trans Y.ext, Y.good, Y.fr⟩
theorem At.tok (X : At B env me lc st μ I s₀ μ₀ I₀ s) (t : Nat) : At B env me lc st μ I s₀ μ₀ I₀ { s with toks := t } := ⟨by rw [X.same], X.ext, X.good, X.fr⟩
end

/-- the value that a flow hands out -/
inductive VFl (I : Led) (μ : List Addr) : Flow → MF → Prop
  | next : VFl I μ .next .next
  | brk : VFl I μ .brk .brk
  | cont : VFl I μ .cont .cont
  | ret {v : Value} {m : MV} : V I μ v m → VFl I μ (.ret v) (.ret m)

section
variable (B : Base) (R : Rec) (n : Nat)
noncomputable def EvS : Prop := ∀ {e : Expr} {me : ME} {lc : Lc} {st : St} {mv : MV} {st' : St}, R.ev e me lc st = some (mv, st') → ∀ {env : Env} {A : Around} {s s₀ : Shared} {μ₀ μ : List Addr} {I₀ I : Led} {Q : Value → Shared → Prop} {E : Value → Shared → Prop},
  Room A n → At B env me lc st μ I s₀ μ₀ I₀ s → (∀ v s' μ' I', At B env me lc st' μ' I' s₀ μ₀ I₀ s' → Le μ I μ' I' → V I' μ' v mv → Q v s') → wpAny B.M A (eval e env) Q E s
noncomputable def TrS : Prop := ∀ {e : Expr} {me : ME} {lc : Lc} {st : St} {b : Bool} {st' : St}, R.tr e me lc st = some (b, st') → ∀ {env : Env} {A : Around} {s s₀ : Shared} {μ₀ μ : List Addr} {I₀ I : Led} {Q : Bool → Shared → Prop} {E : Value → Shared → Prop},
  Room A n → At B env me lc st μ I s₀ μ₀ I₀ s → (∀ s' μ' I', At B env me lc st' μ' I' s₀ μ₀ I₀ s' → Le μ I μ' I' → Q b s') → wpAny B.M A (isTrue e env (eval e env)) Q E s
noncomputable def ExS : Prop := ∀ {c : Stmt} {me : ME} {lc lc' : Lc} {st : St} {f : MF} {st' : St}, R.ex c me lc st = some (f, lc', st') → ∀ {env : Env} {A : Around} {s s₀ : Shared} {μ₀ μ : List Addr} {I₀ I : Led} {Q : Flow → Shared → Prop} {E : Value → Shared → Prop},
  Room A n → At B env me lc st μ I s₀ μ₀ I₀ s → (∀ v s' μ' I', At B env me lc' st' μ' I' s₀ μ₀ I₀ s' → Le μ I μ' I' → VFl I' μ' v f → Q v s') → wpAny B.M A (exec c env) Q E s
noncomputable def CallS : Prop := ∀ {f : MV} {args : List MV} {st : St} {mv : MV} {st' : St}, R.call f args st = some (mv, st') → ∀ {fv : Value} {vs : List Value} {me : ME} {lc : Lc} {env : Env} {A : Around} {s s₀ : Shared} {μ₀ μ : List Addr} {I₀ I : Led} {Q : Value → Shared → Prop} {E : Value → Shared → Prop},
  Room A n → At B env me lc st μ I s₀ μ₀ I₀ s → V I μ fv f → VS I μ vs args → (∀ v s' μ' I', At B env me lc st' μ' I' s₀ μ₀ I₀ s' → Le μ I μ' I' → V I' μ' v mv → Q v s') → wpAny B.M A (call fv vs) Q E s
noncomputable def WhilS : Prop := ∀ {t : Expr} {b : List Stmt} {me : ME} {lc lc' : Lc} {st : St} {f : MF} {st' : St}, R.whil t b me lc st = some (f, lc', st') → ∀ {env : Env} {A : Around} {s s₀ : Shared} {μ₀ μ : List Addr} {I₀ I : Led} {Q : Result → Shared → Prop},
  Room A n → At B env me lc st μ I s₀ μ₀ I₀ s → (∀ v s' μ' I', At B env me lc' st' μ' I' s₀ μ₀ I₀ s' → Le μ I μ' I' → VFl I' μ' v f → Q (.ok v) s') → codeAny B.M A (.whileLoop t b [] env) Q s
end
end Mine
end
section
open PySem PySem.W PySem.Calls PyProof.Rows PySem.Spec
namespace Mine

theorem starEach_cons {e : Expr} {r : List Expr} {env : Env} (h : isStarred e = false) : starEach (e :: r) env = (false, eval e env) :: starEach r env := by
  induction e using PySem.Expr.casesOn with
  | Starred => exact Bool.noConfusion (show true = false from h)
  | _ => rfl

theorem evs_nil {R : Rec} {me : ME} {lc : Lc} {st : St} : evs R [] me lc st = some ([], st) := rfl
theorem bind_some {α β : Type} {x : Option α} {f : α → Option β} {b : β} (h : x.bind f = some b) : ∃ a, x = some a ∧ f a = some b := Option.bind_eq_some_iff.mp h
theorem bindE {α β γ : Type} {o : Option (α × β)} {f : α × β → Option γ} {r : γ} {p : Prop} (h : o.bind f = some r) (k : ∀ a b, o = some (a, b) → f (a, b) = some r → p) : p := by
  obtain ⟨⟨a, b⟩, h1, h2⟩ := bind_some h
  exact k a b h1 h2
theorem bindE3 {α β δ γ : Type} {o : Option (α × β × δ)} {f : α × β × δ → Option γ} {r : γ} {p : Prop} (h : o.bind f = some r) (k : ∀ a b c, o = some (a, b, c) → f (a, b, c) = some r → p) : p := by
  obtain ⟨⟨a, b, c⟩, h1, h2⟩ := bind_some h
  exact k a b c h1 h2
theorem map_some {α β : Type} {x : Option α} {f : α → β} {b : β} (h : x.map f = some b) : ∃ a, x = some a ∧ f a = b := Option.map_eq_some_iff.mp h
theorem ifS {α : Type} {c : Prop} [Decidable c] {x : Option α} {r : α} (h : (if c then x else Option.none) = some r) : c ∧ x = some r := by
  by_cases q : c
  · exact ⟨q, (if_pos q).symm.trans h⟩
  · exact no_some ((if_neg q).symm.trans h)
theorem ifN {α : Type} {c : Prop} [Decidable c] {x : Option α} {r : α} (h : (if c then Option.none else x) = some r) : ¬ c ∧ x = some r := by
  by_cases q : c
  · exact no_some ((if_pos q).symm.trans h)
  · exact ⟨q, (if_neg q).symm.trans h⟩

section
variable {B : Base} {R : Rec} {n : Nat}

theorem sim_evs (ev : EvS B R n) {pos : Pos} {me : ME} {lc : Lc} {env : Env} {A : Around} {s₀ : Shared} {μ₀ : List Addr} {I₀ : Led} {E : Value → Shared → Prop} (hR : Room A n) :
    ∀ {es : List Expr} {st : St} {mvs : List MV} {st' : St} {s : Shared} {μ : List Addr} {I : Led} {Q : List Value → Shared → Prop}, es.any isStarred = false → evs R es me lc st = some (mvs, st') →
      At B env me lc st μ I s₀ μ₀ I₀ s → (∀ vs s' μ' I', At B env me lc st' μ' I' s₀ μ₀ I₀ s' → Le μ I μ' I' → VS I' μ' vs mvs → Q vs s') → wpAny B.M A (spliced (backTo pos (starEach es env))) Q E s
  | [], st, mvs, st', s, μ, I, Q, _, h, X, k => by
    rw [evs_nil] at h
    simp only [Option.some.injEq, Prod.mk.injEq] at h
    obtain ⟨rfl, rfl⟩ := h
    exact wpAny_pure (k [] s μ I X .refl .nil)
  | e :: r, st, mvs, st', s, μ, I, Q, hs, h, X, k => by
    rw [List.any_cons, Bool.or_eq_false_iff] at hs
    rw [evs_step] at h
    refine bindE (h) fun v st1 h1 h => ?_
    refine bindE (h) fun vs st2 h2 h => ?_
    simp only [Option.some.injEq, Prod.mk.injEq] at h
    obtain ⟨rfl, rfl⟩ := h
    rw [starEach_cons hs.1]
    show wpAny _ _ (spliced ((false, eval e env) :: backTo pos (starEach r env))) _ _ _
    unfold spliced
    refine wpAny_bind (ev h1 hR X fun v1 s1 μ1 I1 X1 l1 hv1 => ?_)
    refine wpAny_bind (wpAny_pure (wpAny_bind (wpAny_holding (sim_evs ev hR hs.2 h2 X1 fun vs1 s2 μ2 I2 X2 l2 hv2 => wpAny_pure ?_))))
    exact k _ s2 μ2 I2 X2 (l1.trans l2) (.cons (l2.V hv1) hv2)

theorem FrOk.name {B : Base} {env : Env} {me : ME} {lc : Lc} {st : St} {μ : List Addr} {I : Led} {s : Shared} {A : Around} {Q : Value → Shared → Prop} {E : Value → Shared → Prop} {x : Str} {m : MV} {pos : Pos}
    (ok : ∀ x m, B.P.glob x = some m → ∃ v, (B.mg x = some v ∨ (B.mg x = none ∧ B.mb x = some v)) ∧ V [] [] v m) (hg : B.hb.Ns mainGlobals B.mg) (hb : B.hb.Ns builtinsNs B.mb)
    (F : FrOk B env me lc μ I s.heap) (G : GoodH B μ I st s.heap) (h : getName B.P me lc x = some m) (k : ∀ v, V I μ v m → Q v s) : wpAny B.M A (eval (.Name x pos) env) Q E s := by
  have hk : env.scope.kind = .function := by rw [F.sc]; exact F.kf
  have hkd : env.kindOf x = me.kind x := by unfold Env.kindOf ME.kind; rw [F.sc]
  have hd : (x == ("__debug__" : Str)) = false := by
    cases q : x == ("__debug__" : Str) with
    | false => rfl
    | true =>
      have e := beq_iff_eq.mp q
      unfold getName at h
      rw [e, F.nd] at h; cases h
  have hn : me.kind x = some .free → (x == ("__classdict__" : Str)) = false := fun hf => by
    cases q : x == ("__classdict__" : Str) with
    | false => rfl
    | true =>
      have e := beq_iff_eq.mp q
      rw [e, F.nc] at hf; cases hf
  unfold getName at h
  cases q : me.kind x with
  | none => rw [q] at h; cases h
  | some kd =>
    rw [q] at h
    induction kd using PySem.NameKind.casesOn with
    | «local» =>
      obtain ⟨mm, hm, hv⟩ := F.ns
      obtain ⟨v, h1, h2⟩ := hv x m q h
      exact wpAny_Name (wpAny_loadName_local hk (hkd.trans q) hm h1 (k v h2)) hd
    | cell =>
      dsimp only at h
      by_cases ho : me.own x = true
      · rw [if_pos ho] at h
        obtain ⟨_, c, u, h1, h2, h3⟩ := F.cel x ho
        obtain ⟨v, rfl, hv⟩ := h3 m h
        exact wpAny_Name (wpAny_loadName_cell hk (hkd.trans q) h1 h2 (k v hv)) hd
      · rw [if_neg ho] at h
        obtain ⟨_, c, v, h1, h2, h3, _⟩ := F.fre x m h
        exact wpAny_Name (wpAny_loadName_cell hk (hkd.trans q) h1 h2 (k v h3)) hd
    | free =>
      obtain ⟨_, c, v, h1, h2, h3, _⟩ := F.fre x m h
      exact wpAny_Name (wpAny_loadName_free hk (hkd.trans q) h1 h2 (k v h3) (hn q)) hd
    | globalImplicit =>
      obtain ⟨v, hv, hV⟩ := ok x m h
      have hV' : V I μ v m := hV.mono (fun p e => absurd e List.not_mem_nil) (fun _ _ e => by simp at e)
      have hg' : s.heap.Ns env.globals B.mg := by rw [F.gl]; exact hg.keeps G.base
      have hb' : s.heap.Ns env.builtins B.mb := by rw [F.bu]; exact hb.keeps G.base
      refine Name_function_global hk (hkd.trans q) ?_ hd
      rcases hv with hv | ⟨h0, hv⟩
      · exact loadGlobal_global hg' hv (k v hV')
      · exact loadGlobal_builtin hg' h0 hb' hv (k v hV')
    | globalExplicit => cases h

theorem sim_const {c : Const} {k' : Nat} {pos : Pos} {m : MV} {env : Env} {A : Around} {s : Shared} {Q : Value → Shared → Prop} {E : Value → Shared → Prop} {I : Led} {μ : List Addr}
    (h : constM c = some m) (k : ∀ v t, V I μ v m → Q v { s with toks := t }) : wpAny B.M A (eval (.Constant c k' pos) env) Q E s := by
  show wpAny B.M A (constValue env c) Q E s
  induction c using PySem.Const.casesOn with
  | none => obtain rfl := Option.some.inj h; exact wpAny_pure (k _ s.toks .none)
  | bool => obtain rfl := Option.some.inj h; exact wpAny_pure (k _ s.toks (.bool _))
  | int => obtain rfl := Option.some.inj h; exact wpAny_mkInt (k _ _ (.int _ _))
  | str => obtain rfl := Option.some.inj h; exact wpAny_mkText (k _ _ (.str _ _))
  | bytes =>
    obtain ⟨hz, g⟩ := ifS h
    obtain rfl := Option.some.inj g
    exact wpAny_mkTextBytes (k _ _ (.bytes _ _ (Nat.le_trans hz (by decide))))
  | _ => exact no_some h
end
end Mine
end
section
open PySem PySem.W PySem.Calls PyProof.Rows PySem.Spec
namespace Mine

section
variable {B : Base} {env : Env} {me : ME} {lc : Lc} {st : St} {μ μ₀ : List Addr} {I I₀ : Led} {s s₀ : Shared}

theorem GoodH.liveμ {h : Heap} (G : GoodH B μ I st h) {a : Addr} (ha : a ∈ μ) : ∃ o, h.get? a = some o := by
  obtain ⟨l, hl, he⟩ := List.getElem_of_mem ha
  have hl' : l < st.length := G.len ▸ hl
  exact (G.rep l a st[l] (by rw [List.getElem?_eq_getElem hl, he]) (by rw [List.getElem?_eq_getElem hl'])).live
theorem GoodH.liveT {h : Heap} (G : GoodH B μ I st h) : ∃ o, h.get? B.tab = some o := let ⟨_, e, _⟩ := G.tab.at_; ⟨_, e⟩
theorem TabOk.keeps {h h' : Heap} {I' : Led} (T : TabOk B I h) (hk : ∀ o, h.get? B.tab = some o → h'.get? B.tab = some o) (hI : ∀ p ∈ I, p ∈ I') : TabOk B I' h' :=
  let ⟨ps, e, t, f⟩ := T.at_
  ⟨ps, hk _ e, t, fun pos cv q => let ⟨c', oc, vs, t, a, b, r⟩ := f pos cv q; ⟨c', oc, vs, t, a, hI _ b, r⟩⟩

theorem GoodH.grow {h h' : Heap} (G : GoodH B μ I st h) (hk : ∀ b o, h.get? b = some o → h'.get? b = some o) : GoodH B μ I st h' :=
  ⟨fun b o e => hk b o (G.base b o e), fun p hp => hk _ _ (G.imm p hp), G.len, fun l a mo h1 h2 => (G.rep l a mo h1 h2).mono (fun _ e => e) (fun _ _ e => e) (fun o e => hk _ o e), G.nodup, G.offB, G.offI, G.offT, G.tabI, G.tab.keeps (fun o e => hk _ o e) fun _ e => e⟩

theorem Ext.grow {own : List Addr} {h h' : Heap} (hk : ∀ b o, h.get? b = some o → h'.get? b = some o) : Ext B own μ I h μ I h' :=
  ⟨⟨[], by simp⟩, fun _ e => e, fun b o e _ _ _ => hk b o e, fun b o e => ⟨o, hk b o e⟩, fun _ e => .inl e, fun _ e => .inl e⟩

theorem At.step {lc' : Lc} {st' : St} {μ' : List Addr} {I' : Led} {h' : Heap} {tk : Nat} (X : At B env me lc st μ I s₀ μ₀ I₀ s) (x : Ext B (ownOf env me) μ I s.heap μ' I' h') (G : GoodH B μ' I' st' h') (F : FrOk B env me lc' μ' I' h') :
    At B env me lc' st' μ' I' s₀ μ₀ I₀ { s with heap := h', toks := tk } := ⟨by rw [X.same], X.ext.trans x, G, F⟩

theorem At.grow {h' : Heap} (X : At B env me lc st μ I s₀ μ₀ I₀ s) (hk : ∀ b o, s.heap.get? b = some o → h'.get? b = some o) (tk : Nat) : At B env me lc st μ I s₀ μ₀ I₀ { s with heap := h', toks := tk } :=
  X.step (Ext.grow hk) (X.good.grow hk) (X.fr.ext X.good (Ext.grow hk))

theorem At.imm {h' : Heap} {a : Addr} {o : Obj} (X : At B env me lc st μ I s₀ μ₀ I₀ s) (hk : ∀ b o, s.heap.get? b = some o → h'.get? b = some o) (hn : s.heap.get? a = none) (ho : h'.get? a = some o) (tk : Nat) :
    At B env me lc st μ ((a, o) :: I) s₀ μ₀ I₀ { s with heap := h', toks := tk } ∧ Le μ I μ ((a, o) :: I) := by
  have G := X.good
  have sub : ∀ p ∈ I, p ∈ (a, o) :: I := fun p hp => .tail _ hp
  have x : Ext B [] μ I s.heap μ ((a, o) :: I) h' := ⟨⟨[], by simp⟩, sub, fun b o e _ _ _ => hk b o e, fun b o e => ⟨o, hk b o e⟩, fun _ e => .inl e, fun p hp => by
    rcases List.mem_cons.mp hp with rfl | hp
    · exact .inr hn
    · exact .inl hp⟩
  refine ⟨X.step (x.weak fun _ q => nomatch q) ⟨fun b o e => hk b o (G.base b o e), fun p hp => ?_, G.len, fun l a mo h1 h2 => (G.rep l a mo h1 h2).mono sub (fun _ _ e => e) (fun o e => hk _ o e), G.nodup, G.offB, fun b hb p hp => ?_, G.offT, fun p hp => ?_, G.tab.keeps (fun o e => hk _ o e) sub⟩ (X.fr.ext G x), sub, fun _ _ e => e⟩
  · rcases List.mem_cons.mp hp with rfl | hp
    · exact ho
    · exact hk _ _ (G.imm p hp)
  · rcases List.mem_cons.mp hp with rfl | hp
    · intro e
      obtain ⟨o', e'⟩ := G.liveμ hb
      rw [← e] at e'
      rw [hn] at e'; cases e'
    · exact G.offI b hb p hp
  · rcases List.mem_cons.mp hp with rfl | hp
    · intro e
      obtain ⟨o', e'⟩ := G.liveT
      rw [← e] at e'
      rw [hn] at e'; cases e'
    · exact G.tabI p hp

theorem fresh_size (h : Heap) : h.get? h.objs.size = none := by
  cases q : h.get? h.objs.size with
  | none => rfl
  | some o => exact absurd (Heap.lt_size q) (Nat.lt_irrefl _)

theorem At.pushI {o : Obj} (X : At B env me lc st μ I s₀ μ₀ I₀ s) (hf : o.isFreed = false) (tk : Nat) :
    At B env me lc st μ ((s.heap.objs.size, o) :: I) s₀ μ₀ I₀ { s with heap := s.heap.push o, toks := tk } ∧ Le μ I μ ((s.heap.objs.size, o) :: I) :=
  X.imm (fun _ _ e => Heap.get?_push_of_some _ e) (fresh_size _) (Heap.get?_push_size _ hf) tk

theorem At.loc {h' : Heap} {a : Addr} {mo : MO} (X : At B env me lc st μ I s₀ μ₀ I₀ s) (hk : ∀ b o, s.heap.get? b = some o → h'.get? b = some o) (hn : s.heap.get? a = none) (ho : OH B I μ h' a mo) (tk : Nat) :
    At B env me lc (st ++ [mo]) (μ ++ [a]) I s₀ μ₀ I₀ { s with heap := h', toks := tk } ∧ Le μ I (μ ++ [a]) I ∧ (μ ++ [a])[st.length]? = some a := by
  have G := X.good
  have get : ∀ (l : Nat) (b : Addr), μ[l]? = some b → (μ ++ [a])[l]? = some b := fun l b e => by
    rw [List.getElem?_append_left (List.getElem?_eq_some_iff.mp e).1]; exact e
  have hna : a ∉ μ := fun q => by
    obtain ⟨o', e'⟩ := G.liveμ q
    rw [hn] at e'; cases e'
  have x : Ext B [] μ I s.heap (μ ++ [a]) I h' := ⟨⟨[a], rfl⟩, fun _ e => e, fun b o e _ _ _ => hk b o e, fun b o e => ⟨o, hk b o e⟩, fun b hb => by
    rcases List.mem_append.mp hb with q | q
    · exact .inl q
    · rw [List.mem_singleton.mp q]; exact .inr hn, fun _ e => .inl e⟩
  refine ⟨X.step (x.weak fun _ q => nomatch q) ⟨fun b o e => hk b o (G.base b o e), fun p hp => hk _ _ (G.imm p hp), by simp [G.len], fun l b mo' h1 h2 => ?_, ?_, fun b hb => ?_, fun b hb p hp => ?_, fun hb => ?_, G.tabI, G.tab.keeps (fun o e => hk _ o e) fun _ e => e⟩ (X.fr.ext G x), ⟨fun _ e => e, get⟩, by rw [← G.len]; simp⟩
  · by_cases hl : l < st.length
    · rw [List.getElem?_append_left (G.len ▸ hl)] at h1
      rw [List.getElem?_append_left hl] at h2
      exact (G.rep l b mo' h1 h2).mono (fun _ e => e) get (fun o e => hk _ o e)
    · have hl2 : l = st.length := by
        have := (List.getElem?_eq_some_iff.mp h2).1
        simp only [List.length_append, List.length_cons, List.length_nil] at this
        omega
      subst hl2
      have e1 : (μ ++ [a])[st.length]? = some a := by rw [← G.len]; simp
      have e2 : (st ++ [mo])[st.length]? = some mo := by simp
      rw [e1] at h1; cases h1
      rw [e2] at h2; cases h2
      exact ho.mono (fun _ e => e) get (fun _ e => e)
  · rw [List.nodup_append]
    refine ⟨G.nodup, by simp, fun b hb c hc => ?_⟩
    rw [List.mem_singleton.mp hc]
    exact fun e => hna (e ▸ hb)
  · rcases List.mem_append.mp hb with q | q
    · exact G.offB b q
    · rw [List.mem_singleton.mp q]
      cases z : B.hb.get? a with
      | none => rfl
      | some o => have := G.base _ _ z; rw [hn] at this; cases this
  · rcases List.mem_append.mp hb with q | q
    · exact G.offI b q p hp
    · rw [List.mem_singleton.mp q]
      intro e
      have := G.imm p hp
      rw [e, hn] at this; cases this
  · rcases List.mem_append.mp hb with q | q
    · exact G.offT q
    · obtain ⟨o', e'⟩ := G.liveT
      rw [List.mem_singleton.mp q, hn] at e'; cases e'

theorem At.put {h' : Heap} {l : Nat} {a : Addr} {mo : MO} (X : At B env me lc st μ I s₀ μ₀ I₀ s) (hl : μ[l]? = some a) (hs : Heap.ExtBut a s.heap h') (ho : OH B I μ h' a mo) (tk : Nat) :
    At B env me lc (st.set l mo) μ I s₀ μ₀ I₀ { s with heap := h', toks := tk } := by
  have G := X.good
  have hm : a ∈ μ := List.mem_of_getElem? hl
  obtain ⟨oa, hoa⟩ := ho.live
  have x : Ext B [] μ I s.heap μ I h' := ⟨⟨[], by simp⟩, fun _ e => e, fun b o e hb _ _ => hs b o (fun q => hb (q ▸ hm)) e, fun b o e => by
    by_cases q : b = a
    · exact ⟨oa, q ▸ hoa⟩
    · exact ⟨o, hs b o q e⟩, fun _ e => .inl e, fun _ e => .inl e⟩
  refine X.step (x.weak fun _ q => nomatch q) ⟨fun b o e => hs b o (fun q => ?_) (G.base b o e), fun p hp => hs _ _ (G.offI a hm p hp) (G.imm p hp), by simp [G.len], fun k b mo' h1 h2 => ?_, G.nodup, G.offB, G.offI, G.offT, G.tabI, G.tab.keeps (fun o e => hs _ o (fun q => G.offT (q ▸ hm)) e) fun _ e => e⟩ (X.fr.ext G x)
  · have := G.offB a hm
    rw [← q, e] at this; cases this
  · by_cases hk : k = l
    · subst hk
      rw [hl] at h1; cases h1
      have hlt : k < st.length := by
        have := (List.getElem?_eq_some_iff.mp h2).1
        simpa using this
      rw [List.getElem?_set_self hlt] at h2; cases h2
      exact ho
    · rw [List.getElem?_set_ne (Ne.symm hk)] at h2
      have hne : b ≠ a := fun q => by
        subst q
        obtain ⟨i1, e1⟩ := List.getElem?_eq_some_iff.mp h1
        obtain ⟨i2, e2⟩ := List.getElem?_eq_some_iff.mp hl
        exact hk ((List.getElem_inj G.nodup).mp (e1.trans e2.symm))
      exact (G.rep k b mo' h1 h2).mono (fun _ e => e) (fun _ _ e => e) (fun o e => hs _ o hne e)
end
end Mine
end
section
open PySem PySem.W PySem.Calls PyProof.Rows PySem.Spec
namespace Mine

section
variable {B : Base} {env : Env} {me : ME} {lc : Lc} {st st' : St} {μ μ₀ : List Addr} {I I₀ : Led} {s s₀ : Shared} {A : Around} {E : Value → Shared → Prop}

theorem small_bits {i : Int} (h : small i = true) : Builtin.Int.intBits i ≤ 64 := by
  unfold small at h
  simp only [Bool.and_eq_true, decide_eq_true_eq] at h
  exact intBits_le_64 (by omega) (by omega)

theorem isList_of {a : Addr} {o : Obj} {vs : List Value} {n : Nat} (h : s.heap.get? a = some o) (hc : o.cls = .type "list") (hd : o.data = .seq vs.toArray n) : s.heap.IsList a vs.toArray := ⟨o, h, hc, n, hd⟩

theorem sim_bop {op : Operator} {a b : MV} {va vb : Value} {r : MV} {Q : Value → Shared → Prop} (h : bop op a b st = some (r, st')) (ha : V I μ va a) (hb : V I μ vb b) (X : At B env me lc st μ I s₀ μ₀ I₀ s)
    (k : ∀ v s' μ' I', At B env me lc st' μ' I' s₀ μ₀ I₀ s' → Le μ I μ' I' → V I' μ' v r → Q v s') : wpAny B.M A (binaryOp op va vb) Q E s := by
  induction op using PySem.Operator.casesOn with
  | Add =>
    induction a using MV.casesOn with
    | int i =>
      obtain ⟨j, hj, g⟩ := bind_some (show (asIntM b).bind _ = _ from h); clear h
      obtain rfl := asIntM_eq hj; clear hj
      obtain ⟨rfl, rfl⟩ := some2 g
      obtain ⟨_, rfl⟩ := ha.inv; obtain ⟨_, rfl⟩ := hb.inv
      exact add_int (k _ _ μ I (X.tok _) .refl (.int _ _))
    | bytes x =>
      obtain ⟨y, hj, g⟩ := bind_some (show (asBytesM b).bind _ = _ from h); clear h
      obtain rfl := asBytesM_eq hj; clear hj
      split at g
      · rename_i hj
        obtain ⟨rfl, rfl⟩ := some2 g
        obtain ⟨_, rfl, _⟩ := ha.inv; obtain ⟨_, rfl, _⟩ := hb.inv
        refine KBy.add_bytes (by simp only [List.size_toArray]; omega) fun t' tk => ?_
        refine k _ _ μ I (X.tok _) .refl ?_
        rw [List.append_toArray]
        exact V.bytes _ _ (by rw [List.length_append]; omega)
      · exact no_some g
    | lst xs =>
      obtain ⟨ys, hj, g⟩ := bind_some (show (asLstM b).bind _ = _ from h); clear h
      obtain rfl := asLstM_eq hj; clear hj
      split at g
      · rename_i hj
        obtain ⟨rfl, rfl⟩ := some2 g
        obtain ⟨a, oa, vsa, na, rfl, ma, ca, da, ra, za⟩ := ha.inv
        obtain ⟨b, ob, vsb, nb, rfl, mb, cb, db, rb, zb⟩ := hb.inv
        obtain ⟨cls, dd, data, sl⟩ := oa
        obtain ⟨cls2, dd2, data2, sl2⟩ := ob
        simp only at ca da cb db
        subst ca da cb db
        have ga := X.good.imm _ ma
        have gb := X.good.imm _ mb
        have e : vsa.toArray ++ vsb.toArray = (vsa ++ vsb).toArray := by simp
        have hz : vsa.toArray.size + vsb.toArray.size ≤ sizeLine := by rw [List.size_toArray, List.size_toArray, ra.length, rb.length, sizeLine_eq]; omega
        refine concat_meets ⟨_, ga, rfl⟩ ⟨_, gb, rfl⟩ noFill_list_add seq_list_add PySem.F.slot_list_add PySem.F.entry_list_add (PySem.F.args_list_add_2 _ _) (list_addW a b vsa.toArray vsb.toArray na nb dd dd2 sl sl2 hz) ⟨ga, gb, ?_⟩
        rw [e]
        obtain ⟨X', l⟩ := X.pushI (o := { cls := .type "list", data := .seq (vsa ++ vsb).toArray }) rfl s.toks
        exact k _ _ _ _ X' l (.lst (.head _) rfl rfl (.append (l.VS ra) (l.VS rb)) (by rw [List.length_append]; omega))
      · exact no_some g
    | _ => exact no_some h
  | Sub =>
    obtain ⟨i, hi, g0⟩ := bind_some (show (asIntM a).bind _ = _ from h); clear h
    obtain ⟨j, hj, g⟩ := bind_some g0; clear g0
    obtain rfl := asIntM_eq hi; obtain rfl := asIntM_eq hj; clear hi hj
    obtain ⟨rfl, rfl⟩ := some2 g
    obtain ⟨_, rfl⟩ := ha.inv; obtain ⟨_, rfl⟩ := hb.inv
    exact sub_int (k _ _ μ I (X.tok _) .refl (.int _ _))
  | Mult =>
    induction a using MV.casesOn with
    | int i =>
      obtain ⟨j, hj, g⟩ := bind_some (show (asIntM b).bind _ = _ from h); clear h
      obtain rfl := asIntM_eq hj; clear hj
      split at g
      · rename_i hs
        obtain ⟨rfl, rfl⟩ := some2 g
        obtain ⟨_, rfl⟩ := ha.inv; obtain ⟨_, rfl⟩ := hb.inv
        refine mul_int (k _ _ μ I (X.tok _) .refl (.int _ _)) ?_
        rcases Bool.or_eq_true_iff.mp hs with q | q
        · exact IntMulOk.of_left (small_bits q)
        · exact IntMulOk.of_right (small_bits q)
      · exact no_some g
    | bytes x =>
      obtain ⟨n, hj, g⟩ := bind_some (show (asIntM b).bind _ = _ from h); clear h
      obtain rfl := asIntM_eq hj; clear hj
      split at g
      · rename_i hj
        simp only [Bool.and_eq_true, decide_eq_true_eq] at hj
        obtain ⟨rfl, rfl⟩ := some2 g
        obtain ⟨_, rfl, _⟩ := ha.inv; obtain ⟨_, rfl⟩ := hb.inv
        refine bytes_mul_any (b := x) (fun q => ?_) (by omega) hj.2 (by omega) fun t' tk => ?_
        · rw [q] at hj; simp at hj
        · refine k _ _ μ I (X.tok _) .refl (V.bytes _ _ ?_)
          rw [List.length_flatten, List.map_replicate, List.sum_replicate_nat, hj.1.1]
          omega
      · exact no_some g
    | _ => exact no_some h
  | Mod =>
    obtain ⟨i, hi, g0⟩ := bind_some (show (asIntM a).bind _ = _ from h); clear h
    obtain ⟨j, hj, g⟩ := bind_some g0; clear g0
    obtain rfl := asIntM_eq hi; obtain rfl := asIntM_eq hj; clear hi hj
    split at g
    · exact no_some g
    · rename_i hj
      obtain ⟨rfl, rfl⟩ := some2 g
      obtain ⟨_, rfl⟩ := ha.inv; obtain ⟨_, rfl⟩ := hb.inv
      exact mod_int' hj (k _ _ μ I (X.tok _) .refl (.int _ _))
  | FloorDiv =>
    obtain ⟨i, hi, g0⟩ := bind_some (show (asIntM a).bind _ = _ from h); clear h
    obtain ⟨j, hj, g⟩ := bind_some g0; clear g0
    obtain rfl := asIntM_eq hi; obtain rfl := asIntM_eq hj; clear hi hj
    split at g
    · rename_i hj
      simp only [Bool.and_eq_true, decide_eq_true_eq] at hj
      obtain ⟨rfl, rfl⟩ := some2 g
      obtain ⟨_, rfl⟩ := ha.inv; obtain ⟨_, rfl⟩ := hb.inv
      exact floordiv_int (by omega) (k _ _ μ I (X.tok _) .refl (.int _ _)) (.inl (PyProof.noPylong_small (by omega)))
    · exact no_some g
  | Pow =>
    obtain ⟨i, hi, g0⟩ := bind_some (show (asIntM a).bind _ = _ from h); clear h
    obtain ⟨j, hj, g⟩ := bind_some g0; clear g0
    obtain rfl := asIntM_eq hi; obtain rfl := asIntM_eq hj; clear hi hj
    split at g
    · rename_i hj
      simp only [Bool.and_eq_true, decide_eq_true_eq] at hj
      obtain ⟨rfl, rfl⟩ := some2 g
      obtain ⟨_, rfl⟩ := ha.inv; obtain ⟨_, rfl⟩ := hb.inv
      refine pow_int hj.1.1 ?_ (k _ _ μ I (X.tok _) .refl (.int _ _))
      have h1 := small_bits hj.2
      have h2 : (Builtin.Int.intBits i : Int) * j ≤ 64 * 64 := Int.mul_le_mul (by omega) (by omega) hj.1.1 (by omega)
      exact Int.le_trans h2 (by decide)
    · exact no_some g
  | _ => exact no_some h
end
end Mine
end
section
open PySem PySem.W PySem.Calls PyProof.Rows PySem.Spec
namespace Mine

theorem dec_beq {α : Type} [DecidableEq α] [BEq α] [LawfulBEq α] (a b : α) : decide (a = b) = (a == b) := by
  by_cases h : a = b
  · subst h; simp
  · simp [h]
theorem any_contains {α : Type} [DecidableEq α] (l : List α) (a : α) : (l.any (· == a)) = l.contains a := by
  induction l with
  | nil => rfl
  | cons b r ih => rw [List.any_cons, ih, List.contains_cons]; congr 1; rw [← dec_beq, ← dec_beq]; by_cases h : a = b <;> simp [h, eq_comm]

theorem eqAt_bytes {A : Around} {s : Shared} (b c : Array UInt8) (t u : Tok) : SeqAt.EqAt A s (.bytes b t) (.bytes c u) (b.toList == c.toList) := fun prog w E Q h => by
  unfold eqBool
  refine wpAny_holding ?_
  refine wpAny_ite_split (fun hab => ?_) (fun _ => ?_)
  · have e : b = c := by have := eq_of_beq hab; injection this
    subst e
    exact wpAny_bind (wpAny_rule (wpAny_pure (by simpa using h)))
  · exact wpAny_bind (richCompare_gives (typeIs_bytes s b t) (typeIs_bytes s c u) FB.slot_bytes_eq FB.entry_bytes_eq (FB.args_bytes_eq_2 _ _) (gives_bytes_eq b c t u) (fun e => nomatch e) (wpAny_truthy_bool h))

theorem gives_bytes_contains (b : Array UInt8) (t : Tok) (i : Int) (u : Tok) (h0 : 0 ≤ i) (h1 : i < 256) : Gives (Builtin.«bytes.__contains__» ⟨[.bytes b t, .int i u], []⟩) (.val (.bool (b.contains i.toNat.toUInt8))) := by
  refine .of_wp fun M A E s Q hq => ?_
  show wpAny M A (Builtin.Bytes.containsIn "bytes.__contains__" (.bytes b t) (.int i u) >>= fun r => _) _ E s
  refine wpAny_bind ?_
  unfold Builtin.Bytes.containsIn
  refine wpAny_bind (wpAny_attempt (wpAny_of_eq (rfl : asIndex (.int i u) = pure i) ?_))
  refine wpAny_bind (wpAny_of_eq KBy.buffer_eq ?_)
  have n : (decide (i < 0) || decide (i ≥ 256)) = false := by simp; omega
  simp only [n]
  exact wpAny_pure (wpAny_pure ⟨_, rfl, hq⟩)

section
variable {B : Base} {env : Env} {me : ME} {lc : Lc} {st st' : St} {μ μ₀ : List Addr} {I I₀ : Led} {s s₀ : Shared} {A : Around} {E : Value → Shared → Prop} {n : Nat}

theorem allStr_inv {x : MV} {xs : List MV} {l : List Str} (h : allStr (x :: xs) = some l) : ∃ s q, x = .str s ∧ allStr xs = some q ∧ s :: q = l := by
  obtain ⟨s, e, g⟩ := bind_some (show (asStrM x).bind (fun s => (allStr xs).map (s :: ·)) = some l from h)
  obtain ⟨q, hq, e'⟩ := map_some g
  exact ⟨s, q, asStrM_eq e, hq, e'⟩
theorem allInt_inv {x : MV} {xs : List MV} {l : List Int} (h : allInt (x :: xs) = some l) : ∃ s q, x = .int s ∧ allInt xs = some q ∧ s :: q = l := by
  obtain ⟨s, e, g⟩ := bind_some (show (asIntM x).bind (fun s => (allInt xs).map (s :: ·)) = some l from h)
  obtain ⟨q, hq, e'⟩ := map_some g
  exact ⟨s, q, asIntM_eq e, hq, e'⟩
theorem strs_of {vs : List Value} {xs : List MV} (h : VS I μ vs xs) : ∀ {l : List Str}, allStr xs = some l → StrsAre vs l :=
  h.ind (P := fun vs xs => ∀ {l : List Str}, allStr xs = some l → StrsAre vs l) (fun e => Option.some.inj e ▸ .nil) fun hv _ r l e => by
    obtain ⟨s, q, rfl, hq, rfl⟩ := allStr_inv e
    obtain ⟨t, rfl⟩ := hv.inv
    exact .cons _ _ (r hq)
theorem ints_of {vs : List Value} {xs : List MV} (h : VS I μ vs xs) : ∀ {l : List Int}, allInt xs = some l → IntsAre vs l :=
  h.ind (P := fun vs xs => ∀ {l : List Int}, allInt xs = some l → IntsAre vs l) (fun e => Option.some.inj e ▸ .nil) fun hv _ r l e => by
    obtain ⟨s, q, rfl, hq, rfl⟩ := allInt_inv e
    obtain ⟨t, rfl⟩ := hv.inv
    exact .cons _ _ (r hq)

theorem VD.length {x : List (Str × Value)} {y : List (Str × MV)} (h : VD I μ x y) : x.length = y.length := by
  induction h with
  | nil => rfl
  | cons _ _ ih => simp [ih]
theorem VD.valueAt {x : List (Str × Value)} {y : List (Str × MV)} (h : VD I μ x y) (k : Str) : (y.lookup k = none → valueAt x k = none) ∧ ∀ m, y.lookup k = some m → ∃ v, valueAt x k = some v ∧ V I μ v m := by
  induction h with
  | nil => exact ⟨fun _ => rfl, fun _ e => nomatch e⟩
  | @cons k' v m r q hv _ ih =>
    by_cases hk : k = k'
    · subst hk
      have e1 : List.lookup k ((k, m) :: q) = some m := by simp
      have e2 : PySem.valueAt ((k, v) :: r) k = some v := by simp [PySem.valueAt]
      rw [e1, e2]
      exact ⟨fun e => (nomatch e), fun m' e => ⟨v, rfl, by cases e; exact hv⟩⟩
    · have e1 : List.lookup k ((k', m) :: q) = List.lookup k q := by rw [List.lookup_cons, beq_eq_false_iff_ne.mpr hk]
      have e2 : PySem.valueAt ((k', v) :: r) k = PySem.valueAt r k := by unfold PySem.valueAt; rw [List.find?_cons_of_neg (by simpa using fun e : k' = k => hk e.symm)]
      rw [e1, e2]
      exact ih

theorem deqV_inv {m u : MV} {d : Option Bool} {r : Bool} (h : deqV m u d = some r) :
    (∃ i j b, m = .int i ∧ u = .int j ∧ d = some b ∧ (decide (i = j) && b) = r) ∨ ∃ i j b, m = .bytes i ∧ u = .bytes j ∧ d = some b ∧ (decide (i = j) && b) = r := by
  induction m using MV.casesOn with
  | int i =>
    obtain ⟨j, e, h⟩ := bind_some h
    obtain ⟨b, hb, g⟩ := map_some h
    exact .inl ⟨i, j, b, rfl, asIntM_eq e, hb, g⟩
  | bytes i =>
    obtain ⟨j, e, h⟩ := bind_some h
    obtain ⟨b, hb, g⟩ := map_some h
    exact .inr ⟨i, j, b, rfl, asBytesM_eq e, hb, g⟩
  | _ => exact no_some h
theorem deqs_cons {p : Str × MV} {r es : List (Str × MV)} : deqs (p :: r) es = (match es.lookup p.1 with | Option.none => some false | some u => deqV p.2 u (deqs r es)) := rfl
theorem keq_of {A : Around} {s : Shared} {x y : List (Str × Value)} {p q : List (Str × MV)} (hx : VD I μ x p) (hy : VD I μ y q) : ∀ {r : Bool}, deqs p q = some r → KeqHits A s y x r := by
  induction hx with
  | nil => exact fun h => Option.some.inj h ▸ .nil
  | @cons k v m xr pr hv _ ih =>
    intro r h
    rw [deqs_cons] at h
    cases hl : q.lookup k with
    | none =>
      rw [hl] at h
      exact Option.some.inj h ▸ .miss ((hy.valueAt k).1 hl)
    | some u =>
      rw [hl] at h
      obtain ⟨vu, hvu, hV⟩ := (hy.valueAt k).2 u hl
      rcases deqV_inv h with ⟨i, j, b, rfl, rfl, hb, rfl⟩ | ⟨i, j, b, rfl, rfl, hb, rfl⟩
      · obtain ⟨_, rfl⟩ := hv.inv; obtain ⟨_, rfl⟩ := hV.inv
        exact KeqHits.hit hvu (SeqAt.EqAt.int_int _ _ _ _) (ih hb)
      · obtain ⟨_, rfl, _⟩ := hv.inv; obtain ⟨_, rfl, _⟩ := hV.inv
        exact KeqHits.hit hvu (by rw [dec_beq]; exact eqAt_bytes (A := A) (s := s) (List.toArray _) (List.toArray _) _ _) (ih hb)

theorem GoodH.list {h : Heap} (G : GoodH B μ I st h) {a : Addr} {l : Nat} {xs : List MV} (ha : μ[l]? = some a) (hs : st[l]? = some (.list xs)) : ∃ vs, h.IsList a (List.toArray vs) ∧ VS I μ vs xs ∧ xs.length ≤ 2097152 :=
  let ⟨vs, n, ho, r⟩ := G.rep l a _ ha hs
  ⟨vs, ⟨_, ho, rfl, n, rfl⟩, r⟩
theorem GoodH.listAt {h : Heap} (G : GoodH B μ I st h) {a : Addr} {l : Nat} {xs : List MV} (ha : μ[l]? = some a) (hs : st[l]? = some (.list xs)) : ∃ vs n, h.get? a = some (listOf (List.toArray vs) n) ∧ VS I μ vs xs ∧ xs.length ≤ 2097152 := G.rep l a _ ha hs
theorem GoodH.dict {h : Heap} (G : GoodH B μ I st h) {a : Addr} {l : Nat} {es : List (Str × MV)} (ha : μ[l]? = some a) (hs : st[l]? = some (.dict es)) : (a ≠ sysModules ∧ es.length ≤ 1000) ∧ ∃ kvs, h.DictOf (strKind B.prog B.w) a kvs ∧ VD I μ kvs es := G.rep l a _ ha hs

theorem leq_inv {xs ys : List MV} {r : Bool} (h : leq xs ys = some r) : (xs.length = 0 ∧ ys.length = 0 ∧ true = r) ∨ (xs.length ≠ ys.length ∧ false = r) := by
  unfold leq at h
  by_cases e : xs.length = ys.length
  · rw [if_pos e] at h
    obtain ⟨z, h⟩ := ifS h
    exact .inl ⟨z, e ▸ z, Option.some.inj h⟩
  · rw [if_neg e] at h
    exact .inr ⟨e, Option.some.inj h⟩
theorem sim_leq {xs ys : List MV} {r : Bool} {a b : Addr} {vs us : List Value} (h : leq xs ys = some r) (ha : s.heap.IsList a vs.toArray) (hv : VS I μ vs xs) (hb : s.heap.IsList b us.toArray) (hu : VS I μ us ys) (hc : A.units < cLine) {Q : Value → Shared → Prop} :
    (Q (.bool r) s → wpAny B.M A (compareOp .Eq (.ref a) (.ref b)) Q E s) ∧ (Q (.bool (!r)) s → wpAny B.M A (compareOp .NotEq (.ref a) (.ref b)) Q E s) := by
  rcases leq_inv h with ⟨x, y, rfl⟩ | ⟨e, rfl⟩
  · rw [← hv.length] at x
    rw [← hu.length] at y
    cases List.length_eq_zero_iff.mp x
    cases List.length_eq_zero_iff.mp y
    exact ⟨SeqAt.eq_listAt (e := fun _ => true) ha hb rfl hc (fun j h1 _ => absurd h1 (Nat.not_lt_zero _)), SeqAt.RcNeAt.lists (e := fun _ => true) ha hb rfl hc (fun j h1 _ => absurd h1 (Nat.not_lt_zero _)) B.prog B.w E Q⟩
  · rw [← hv.length, ← hu.length] at e
    exact ⟨SeqAt.eq_list_lengthsAt ha hb (by simpa using e) hc, SeqAt.RcNeAt.lists_lengths ha hb (by simpa using e) hc B.prog B.w E Q⟩

theorem sim_deq {x y : List (Str × MV)} {r : Bool} {a b : Addr} {k l : Nat} (h : deq x y = some r) (hk : μ[k]? = some a) (hl : μ[l]? = some b) (hx : st[k]? = some (.dict x)) (hy : st[l]? = some (.dict y)) (G : GoodH B μ I st s.heap) (hc : A.units < cLine) {Q : Value → Shared → Prop} :
    (Q (.bool r) s → wpAny B.M A (compareOp .Eq (.ref a) (.ref b)) Q E s) ∧ (Q (.bool (!r)) s → wpAny B.M A (compareOp .NotEq (.ref a) (.ref b)) Q E s) := by
  obtain ⟨n1, ka, d1, v1⟩ := G.dict hk hx
  obtain ⟨n2, kb, d2, v2⟩ := G.dict hl hy
  have m1 : (a == sysModules) = false := beq_eq_false_iff_ne.mpr n1.1
  have m2 : (b == sysModules) = false := beq_eq_false_iff_ne.mpr n2.1
  unfold deq at h
  rw [← v1.length, ← v2.length] at h
  by_cases e : ka.length = kb.length
  · rw [if_pos e] at h
    have e' : (decide (ka.length = kb.length) && r) = r := by rw [decide_eq_true e]; rfl
    exact ⟨fun q => keq_eq (by simpa using n1.1) (by simpa using n2.1) d1 d2 hc (fun _ => keq_of v1 v2 h) (by simpa [e] using q), fun q => keq_ne (by simpa using n1.1) (by simpa using n2.1) d1 d2 hc (fun _ => keq_of v1 v2 h) (by simpa [e] using q)⟩
  · rw [if_neg e] at h
    cases Option.some.inj h
    exact ⟨fun q => keq_eq (r := false) (by simpa using n1.1) (by simpa using n2.1) d1 d2 hc (fun q => absurd q e) (by simpa using q), fun q => keq_ne (r := false) (by simpa using n1.1) (by simpa using n2.1) d1 d2 hc (fun q => absurd q e) (by simpa using q)⟩

noncomputable abbrev EqN (B : Base) (A : Around) (E : Value → Shared → Prop) (s : Shared) (r : Bool) (Q : Value → Shared → Prop) (va vb : Value) : Prop :=
  (Q (.bool r) s → wpAny B.M A (compareOp .Eq va vb) Q E s) ∧ (Q (.bool (!r)) s → wpAny B.M A (compareOp .NotEq va vb) Q E s)
theorem sim_eqn {a b : MV} {va vb : Value} {r : Bool} {Q : Value → Shared → Prop} (h : eqM a b st = some r) (ha : V I μ va a) (hb : V I μ vb b) (G : GoodH B μ I st s.heap) (hc : A.units < cLine) : EqN B A E s r Q va vb := by
  induction a using MV.casesOn with
  | int i =>
    obtain ⟨j, e1, e⟩ := bind_some h
    have e := (dec_beq i j).symm.trans (Option.some.inj e)
    obtain ⟨_, rfl⟩ := ha.inv
    obtain ⟨_, rfl⟩ := (asIntM_eq e1 ▸ hb).inv
    exact ⟨fun k => eq_int (e ▸ k), fun k => ne_int (by rw [bne, e]; exact k)⟩
  | str i =>
    obtain ⟨j, e1, e⟩ := bind_some h
    have e := (dec_beq i j).symm.trans (Option.some.inj e)
    obtain ⟨_, rfl⟩ := ha.inv
    obtain ⟨_, rfl⟩ := (asStrM_eq e1 ▸ hb).inv
    exact ⟨fun k => eq_str (e ▸ k), fun k => ne_str (by rw [bne, e]; exact k)⟩
  | bytes i =>
    obtain ⟨j, e1, e⟩ := bind_some h
    have e := (dec_beq i j).symm.trans (Option.some.inj e)
    obtain ⟨_, rfl, _⟩ := ha.inv
    obtain ⟨_, rfl, _⟩ := (asBytesM_eq e1 ▸ hb).inv
    exact ⟨fun k => eq_bytes (e ▸ k), fun k => ne_bytes (by rw [bne, e]; exact k)⟩
  | lst xs =>
    obtain ⟨l, e1, e⟩ := bind_some h
    obtain ⟨ys, e2, g⟩ := bind_some e
    obtain ⟨_, rfl, hl⟩ := (asLocM_eq e1 ▸ hb).inv
    obtain ⟨us, hb, hu, _⟩ := G.list hl (listAt_eq e2)
    obtain ⟨_, _, _, _, rfl, ma, ca, da, ra, za⟩ := ha.inv
    exact sim_leq g (isList_of (G.imm _ ma) ca da) ra hb hu hc
  | loc k =>
    obtain ⟨l, e1, e⟩ := bind_some h
    obtain ⟨x, hx, e⟩ := bind_some e
    obtain ⟨y, hy, e⟩ := bind_some e
    obtain ⟨_, rfl, hk⟩ := ha.inv
    obtain ⟨_, rfl, hl⟩ := (asLocM_eq e1 ▸ hb).inv
    exact sim_deq e hk hl (dictAt_eq hx) (dictAt_eq hy) G hc
  | _ => exact no_some h

theorem V.isNone {v : Value} {m : MV} (h : V I μ v m) : (v == Value.none) = isNoneM m :=
  V.casesOn (motive_1 := fun v m _ => (v == Value.none) = isNoneM m) h rfl (fun _ => rfl) (fun _ _ => rfl) (fun _ _ => rfl) (fun _ _ _ => rfl) (fun _ _ _ _ _ => rfl) (fun _ _ _ _ _ => rfl) (fun _ => rfl) (fun _ _ => rfl)
    (fun _ => rfl) (fun _ => rfl) (fun b => by cases b <;> rfl) (fun _ _ _ _ _ _ => rfl) (fun _ => rfl)

theorem int2_eq {f : Int → Int → Bool} {a b : MV} {r : Bool} (h : int2 a b f = some r) : ∃ i j, a = .int i ∧ b = .int j ∧ f i j = r := by
  obtain ⟨i, e1, h⟩ := bind_some h
  obtain ⟨j, e2, h⟩ := bind_some h
  exact ⟨i, j, asIntM_eq e1, asIntM_eq e2, Option.some.inj h⟩
theorem in_inv {a b : MV} {r : Bool} (h : inM a b = some r) : ∃ i c, a = .int i ∧ b = .bytes c ∧ (0 ≤ i ∧ i < 256) ∧ c.contains (UInt8.ofNat i.toNat) = r := by
  obtain ⟨i, e1, h⟩ := bind_some h
  obtain ⟨j, e2, h⟩ := bind_some h
  exact ⟨i, j, asIntM_eq e1, asBytesM_eq e2, (ifS h).1, Option.some.inj (ifS h).2⟩
theorem notin_inv {a : MV} {xs : List MV} {r : Bool} (h : notinM a xs = some r) : (∃ i l, a = .str i ∧ allStr xs = some l ∧ (!l.contains i) = r) ∨ ∃ i l, a = .int i ∧ allInt xs = some l ∧ (!l.contains i) = r := by
  induction a using MV.casesOn with
  | str i =>
    obtain ⟨l, e, h⟩ := bind_some h
    exact .inl ⟨i, l, rfl, e, Option.some.inj h⟩
  | int i =>
    obtain ⟨l, e, h⟩ := bind_some h
    exact .inr ⟨i, l, rfl, e, Option.some.inj h⟩
  | _ => exact no_some h
theorem sim_in {a b : MV} {va vb : Value} {r : Bool} {Q : Value → Shared → Prop} (h : inM a b = some r) (ha : V I μ va a) (hb : V I μ vb b) (k : Q (.bool r) s) : wpAny B.M A (compareOp .In va vb) Q E s := by
  obtain ⟨i, c, rfl, rfl, hi, rfl⟩ := in_inv h
  obtain ⟨_, rfl⟩ := ha.inv
  obtain ⟨_, rfl, _⟩ := hb.inv
  exact SeqRoads2.in_meets (typeIs_bytes s _ _) FB.slot_bytes_contains FB.entry_bytes_contains (FB.args_bytes_contains_2 _ _) (gives_bytes_contains _ _ _ _ hi.1 hi.2).meets ⟨_, rfl, by simpa using k⟩
theorem sim_notin {a b : MV} {va vb : Value} {r : Bool} {Q : Value → Shared → Prop} (h : cmp .NotIn a b st = some r) (ha : V I μ va a) (hb : V I μ vb b) (G : GoodH B μ I st s.heap) (k : Q (.bool r) s) : wpAny B.M A (compareOp .NotIn va vb) Q E s := by
  obtain ⟨xs, e, g⟩ := bind_some h
  clear h
  obtain ⟨_, _, _, _, rfl, mb, cb, db, rb, zb⟩ := (asLstM_eq e ▸ hb).inv
  rcases notin_inv g with ⟨i, l, rfl, hl, rfl⟩ | ⟨i, l, rfl, hl, rfl⟩
  · obtain ⟨_, rfl⟩ := ha.inv
    exact notin_list_strs (isList_of (G.imm _ mb) cb db) (strs_of rb hl) (by rw [any_contains]; exact k)
  · obtain ⟨_, rfl⟩ := ha.inv
    exact notin_list_ints (isList_of (G.imm _ mb) cb db) (ints_of rb hl) (by rw [any_contains]; exact k)
theorem sim_ints {op : CmpOp} {f : Int → Int → Bool} {a b : MV} {va vb : Value} {r : Bool} {Q : Value → Shared → Prop} (h : ∃ i j, a = .int i ∧ b = .int j ∧ f i j = r) (ha : V I μ va a) (hb : V I μ vb b) (k : Q (.bool r) s)
    (g : ∀ i j t u, Q (.bool (f i j)) s → wpAny B.M A (compareOp op (.int i t) (.int j u)) Q E s) : wpAny B.M A (compareOp op va vb) Q E s := by
  obtain ⟨i, j, rfl, rfl, rfl⟩ := h
  obtain ⟨_, rfl⟩ := ha.inv
  obtain ⟨_, rfl⟩ := hb.inv
  exact g _ _ _ _ k
theorem sim_cmp {op : CmpOp} {a b : MV} {va vb : Value} {r : Bool} {Q : Value → Shared → Prop} (h : cmp op a b st = some r) (ha : V I μ va a) (hb : V I μ vb b) (G : GoodH B μ I st s.heap) (hc : A.units < cLine)
    (k : Q (.bool r) s) : wpAny B.M A (compareOp op va vb) Q E s := by
  induction op using PySem.CmpOp.casesOn with
  | Lt => exact sim_ints (f := fun i j => decide (i < j)) (int2_eq h) ha hb k fun _ _ _ _ k => lt_int k
  | LtE => exact sim_ints (f := fun i j => decide (i ≤ j)) (int2_eq h) ha hb k fun _ _ _ _ k => le_int k
  | Gt => exact sim_ints (f := fun i j => decide (j < i)) (int2_eq h) ha hb k fun _ _ _ _ k => gt_int k
  | GtE => exact sim_ints (f := fun i j => decide (j ≤ i)) (int2_eq h) ha hb k fun _ _ _ _ k => ge_int k
  | Eq => exact (sim_eqn h ha hb G hc).1 k
  | NotEq =>
    obtain ⟨q, hq, e⟩ := map_some h
    exact (sim_eqn hq ha hb G hc).2 (e ▸ k)
  | Is =>
    obtain ⟨e1, e2⟩ := ifS h
    obtain rfl := (isNoneM_eq e1 ▸ hb).inv
    exact is_none_gen (by rw [ha.isNone, Option.some.inj e2]; exact k)
  | IsNot =>
    obtain ⟨e1, e2⟩ := ifS h
    obtain rfl := (isNoneM_eq e1 ▸ hb).inv
    exact isnot_none_gen (by rw [ha.isNone, Option.some.inj e2]; exact k)
  | In => exact sim_in h ha hb k
  | NotIn => exact sim_notin h ha hb G k
end
end Mine
end
section
open PySem PySem.W PySem.Calls PyProof.Rows PySem.Spec
namespace Mine

theorem subscripted_plain {slice : Expr} {o i : Value} (h : isSlice slice = false) : subscripted slice false o i = operate [o, i] (getItem o i) := by
  induction slice using PySem.Expr.casesOn with
  | Slice => exact (Bool.noConfusion h)
  | _ => rfl

theorem cut_eq {α : Type} {xs ys : List α} {lo hi : Option Int} (h : cut xs lo hi = some ys) : (xs.drop (lo.elim 0 (clipAt xs.length))).take (hi.elim xs.length (clipAt xs.length) - lo.elim 0 (clipAt xs.length)) = ys := by
  have tk : ∀ n : Nat, xs.take (min n xs.length) = xs.take n := fun n => by
    rcases Nat.le_total n xs.length with q | q
    · rw [Nat.min_eq_left q]
    · rw [Nat.min_eq_right q, List.take_of_length_le (Nat.le_refl _), List.take_of_length_le q]
  have dr : ∀ (zs : List α) (n m : Nat), zs.length ≤ m → zs.drop (min n m) = zs.drop n := fun zs n m hm => by
    rcases Nat.le_total n m with q | q
    · rw [Nat.min_eq_left q]
    · rw [Nat.min_eq_right q, List.drop_of_length_le hm, List.drop_of_length_le (Nat.le_trans hm q)]
  induction lo using Option.casesOn with
  | none => induction hi using Option.casesOn with
    | none => exact no_some h
    | some b =>
      obtain ⟨hb, h⟩ := ifS h
      obtain rfl := Option.some.inj h
      obtain ⟨n, rfl⟩ := Int.eq_ofNat_of_zero_le hb
      simp only [Option.elim, clipAt_nat, Int.toNat_natCast, List.drop_zero, Nat.sub_zero]
      exact tk n
  | some a => induction hi using Option.casesOn with
    | none =>
      obtain ⟨ha, h⟩ := ifS h
      obtain rfl := Option.some.inj h
      obtain ⟨n, rfl⟩ := Int.eq_ofNat_of_zero_le ha
      simp only [Option.elim, clipAt_nat, Int.toNat_natCast]
      rw [dr _ _ _ (Nat.le_refl _), List.take_of_length_le (by simp; omega)]
    | some b =>
      obtain ⟨hab, h⟩ := ifS h
      obtain rfl := Option.some.inj h
      obtain ⟨n, rfl⟩ := Int.eq_ofNat_of_zero_le hab.1
      obtain ⟨m, rfl⟩ := Int.eq_ofNat_of_zero_le hab.2
      simp only [Option.elim, clipAt_nat, Int.toNat_natCast]
      rw [← List.drop_take, tk m]
      rw [dr _ _ _ (by rw [List.length_take]; exact Nat.min_le_right _ _)]

theorem cut_length {α : Type} {xs ys : List α} {lo hi : Option Int} (h : cut xs lo hi = some ys) : ys.length ≤ xs.length := by
  rw [← cut_eq h]; exact Nat.le_trans (List.length_take_le' ..) (by rw [List.length_drop]; exact Nat.sub_le ..)

section
variable {B : Base} {env : Env} {me : ME} {lc : Lc} {st st' : St} {μ μ₀ : List Addr} {I I₀ : Led} {s s₀ : Shared} {A : Around} {E : Value → Shared → Prop} {n : Nat}

theorem idx_some {xs : List MV} {i : Int} {m : MV} (h : idxM xs i = some m) : 0 ≤ i ∧ xs[i.toNat]? = some m := ifS h

theorem isTup_of {a : Addr} {o : Obj} {vs : List Value} {n : Nat} (h : s.heap.get? a = some o) (hc : o.cls = .type "tuple") (hd : o.data = .seq vs.toArray n) : IsTup s.heap a vs.toArray := ⟨o, h, hc, n, hd⟩

theorem small_idx {xs : List MV} {i : Int} {m : MV} (h0 : 0 ≤ i) (hx : xs[i.toNat]? = some m) (hz : xs.length ≤ 2097152) : i.toNat < xs.length ∧ -9223372036854775808 ≤ i ∧ i < 9223372036854775808 := by
  have := (List.getElem?_eq_some_iff.mp hx).1
  clear hx
  omega
theorem item_lst {value slice : Expr} {a : Addr} {vs : List Value} {xs : List MV} {i : Int} {t : Tok} {m : MV} {Q : Value → Shared → Prop} (h : idxM xs i = some m) (L : s.heap.IsList a vs.toArray) (ra : VS I μ vs xs) (za : xs.length ≤ 2097152) (hs : isSlice slice = false)
    (k : ∀ v tk, V I μ v m → Q v { s with toks := tk }) : wpAny B.M A (subscriptTail value slice (.ref a) (.int i t)) Q E s := by
  obtain ⟨h0, hx⟩ := idx_some h
  obtain ⟨v, hv, hV⟩ := ra.get hx
  obtain ⟨h1, h2, h3⟩ := small_idx h0 hx za
  exact tail_any L.typeIs PySem.slot_list_getitem.lookup (wpAny_getItem_list L h0 h3 (by simpa using hv) (k v s.toks hV)) (subscripted_plain hs)
theorem seq_at {n : Nat} {i : Int} (h0 : 0 ≤ i) (h : i.toNat < n) : seqIndex? i n = some i.toNat := by
  have : ¬ (i < 0) := by omega
  unfold seqIndex?
  simp only [this, if_false]
  rw [if_pos]
  simp; omega
theorem item_tup {value slice : Expr} {a : Addr} {vs : List Value} {xs : List MV} {i : Int} {t : Tok} {m : MV} {Q : Value → Shared → Prop} (h : idxM xs i = some m) (L : IsTup s.heap a vs.toArray) (ra : VS I μ vs xs) (za : xs.length ≤ 2097152) (hs : isSlice slice = false)
    (k : ∀ v tk, V I μ v m → Q v { s with toks := tk }) : wpAny B.M A (subscriptTail value slice (.ref a) (.int i t)) Q E s := by
  obtain ⟨h0, hx⟩ := idx_some h
  obtain ⟨v, hv, hV⟩ := ra.get hx
  obtain ⟨h1, h2, h3⟩ := small_idx h0 hx za
  exact tail_any (IsTup.typeIs L) slot_tuple_getitem.lookup (PyProof.Rows.getItem_tuple L h2 h3 (j := i.toNat) (by rw [List.size_toArray, ra.length]; exact seq_at h0 h1) (by simpa using hv) (k v s.toks hV)) (subscripted_plain hs)
theorem item_bytes {value slice : Expr} {b : List UInt8} {i : Int} {t u : Tok} {m : MV} {Q : Value → Shared → Prop} (h : (if 0 ≤ i then (b[i.toNat]?).map fun u => MV.int u.toNat else Option.none) = some m) (hz : b.length ≤ 2097152) (hs : isSlice slice = false)
    (k : ∀ v tk, V I μ v m → Q v { s with toks := tk }) : wpAny B.M A (subscriptTail value slice (.bytes b.toArray t) (.int i u)) Q E s := by
  obtain ⟨h0, h⟩ := ifS h
  obtain ⟨w, hu, rfl⟩ := map_some h
  have hlt := (List.getElem?_eq_some_iff.mp hu).1
  refine tail_any (typeIs_bytes s _ _) FB.slot_bytes_getitem.lookup (getItem_bytes (by omega) h0 (by omega) ?_) (subscripted_plain hs)
  have e : b.getD i.toNat 0 = w := by rw [List.getD_eq_getElem?_getD, hu]; rfl
  exact e ▸ k _ _ (.int _ _)
theorem item_dict {value slice : Expr} {a : Addr} {es : List (Str × MV)} {l : Nat} {key : Str} {t : Tok} {m : MV} {Q : Value → Shared → Prop} (h : es.lookup key = some m) (hl : μ[l]? = some a) (hst : st[l]? = some (.dict es)) (G : GoodH B μ I st s.heap) (hs : isSlice slice = false)
    (k : ∀ v tk, V I μ v m → Q v { s with toks := tk }) : wpAny B.M A (subscriptTail value slice (.ref a) (.str key t)) Q E s := by
  obtain ⟨_, kvs, D, ra⟩ := G.dict hl hst
  obtain ⟨v, hv, hV⟩ := (ra.valueAt key).2 m h
  exact tail_any D.typeIs PySem.F.slot_dict_getitem.lookup (wpAny_getItem_of (knd := strKind B.prog B.w) (k := key) (by simp [PySem.strKind, Value.isStrOf]) D.mapOf hv (k v _ hV)) (subscripted_plain hs)
theorem sim_item {value slice : Expr} {o i m : MV} {vo vi : Value} {Q : Value → Shared → Prop} (h : getItemM o i st = some m) (ho : V I μ vo o) (hi : V I μ vi i) (G : GoodH B μ I st s.heap) (hs : isSlice slice = false)
    (k : ∀ v tk, V I μ v m → Q v { s with toks := tk }) : wpAny B.M A (subscriptTail value slice vo vi) Q E s := by
  induction o using MV.casesOn with
  | tup xs =>
    obtain ⟨j, e, h⟩ := bind_some h
    obtain ⟨_, rfl⟩ := (asIntM_eq e ▸ hi).inv
    obtain ⟨_, _, _, _, rfl, ma, ca, da, ra, za⟩ := ho.inv
    exact item_tup h (isTup_of (G.imm _ ma) ca da) ra za hs k
  | lst xs =>
    obtain ⟨j, e, h⟩ := bind_some h
    obtain ⟨_, rfl⟩ := (asIntM_eq e ▸ hi).inv
    obtain ⟨_, _, _, _, rfl, ma, ca, da, ra, za⟩ := ho.inv
    exact item_lst h (isList_of (G.imm _ ma) ca da) ra za hs k
  | bytes b =>
    obtain ⟨j, e, h⟩ := bind_some h
    obtain ⟨_, rfl⟩ := (asIntM_eq e ▸ hi).inv
    obtain ⟨_, rfl, hz⟩ := ho.inv
    exact item_bytes h hz hs k
  | loc l =>
    obtain ⟨_, rfl, hl⟩ := ho.inv
    induction i using MV.casesOn with
    | int j =>
      obtain ⟨xs, e, h⟩ := bind_some h
      obtain ⟨_, rfl⟩ := hi.inv
      obtain ⟨vs, L, ra, za⟩ := G.list hl (listAt_eq e)
      exact item_lst h L ra za hs k
    | str key =>
      obtain ⟨es, e, h⟩ := bind_some h
      obtain ⟨_, rfl⟩ := hi.inv
      exact item_dict h hl (dictAt_eq e) G hs k
    | _ => exact no_some h
  | _ => exact no_some h
end
end Mine
end
section
open PySem PySem.W PySem.Calls PyProof.Rows PySem.Spec
namespace Mine

section
variable {B : Base} {env : Env} {me : ME} {lc lc' : Lc} {st st' : St} {μ μ' μ₀ : List Addr} {I I' I₀ : Led} {s s₀ : Shared} {A : Around} {E : Value → Shared → Prop} {n : Nat}

theorem FrOk.extL {h h' : Heap} (F : FrOk B env me lc μ I h) (G : GoodH B μ I st h) (x : Ext B [env.locals] μ I h μ' I' h')
    (hn : ∃ m, h'.Ns env.locals m ∧ ∀ y mv, me.kind y = some .local → lc' y = some mv → ∃ v, m y = some v ∧ V I' μ' v mv) (hc : ∀ y, me.own y = true → lc' y = lc y) : FrOk B env me lc' μ' I' h' := by
  have kp : ∀ b, b ∈ ownOf env me → b ≠ env.locals → ∀ o, h.get? b = some o → h'.get? b = some o := fun b hb hl o e => x.keep b o e (F.offM b hb) (fun q => F.offT (q ▸ hb)) (fun q => hl (List.mem_singleton.mp q))
  have kc : ∀ {c u}, c ≠ env.locals → h.IsCell c u → h'.IsCell c u := fun {c u} hl hc => by
    obtain ⟨a, b⟩ := G.off_cell hc
    obtain ⟨o, ho, hd⟩ := hc
    exact ⟨o, x.keep c o ho a b (fun q => hl (List.mem_singleton.mp q)), hd⟩
  refine ⟨F.sc, F.kf, F.nd, F.nc, F.gl, F.bu, F.ab, hn, F.lk, fun y hy => ?_, F.apart, fun y mv hy => ?_, F.nl, fun a ha hm => ?_, fun a ha p hp e => ?_, F.offT, F.offB, fun a ha => ?_, fun hl => ?_⟩
  · obtain ⟨hk, c, u, h1, h2, h3⟩ := F.cel y hy
    exact ⟨hk, c, u, h1, kc (F.nl y c hy h1) h2, fun mv hm => let ⟨v, e, hv⟩ := h3 mv (by rw [← hc y hy]; exact hm); ⟨v, e, x.le.V hv⟩⟩
  · obtain ⟨h0, c, v, h1, h2, h3, h4⟩ := F.fre y mv hy
    exact ⟨h0, c, v, h1, kc (fun q => h4 (q ▸ own_locals)) h2, x.le.V h3, h4⟩
  · rcases x.newμ a hm with q | q
    · exact F.offM a ha q
    · obtain ⟨o, ho⟩ := F.live a ha
      rw [ho] at q; cases q
  · rcases x.newI p hp with q | q
    · exact F.offI a ha p q e
    · obtain ⟨o, ho⟩ := F.live a ha
      rw [e, ho] at q; cases q
  · obtain ⟨o, ho⟩ := F.live a ha
    exact x.live a o ho
  · obtain ⟨h1, h2, h3⟩ := F.lam hl
    exact ⟨h1, h2, fun y mv hy => let ⟨c, o, v, a, b, d, e⟩ := h3 y mv hy; ⟨c, o, v, a, x.sub _ b, d, x.le.V e⟩⟩

theorem At.putL {h' : Heap} {l : Nat} {a : Addr} {mo : MO} {m : Str → Option Value} (X : At B env me lc st μ I s₀ μ₀ I₀ s) (hl : μ[l]? = some a) (hs : ∀ b o, b ≠ a → b ≠ env.locals → s.heap.get? b = some o → h'.get? b = some o)
    (hn : h'.Ns env.locals m) (hv : ∀ y mv, me.kind y = some .local → lc y = some mv → ∃ v, m y = some v ∧ V I μ v mv) (ho : OH B I μ h' a mo) (tk : Nat) :
    At B env me lc (st.set l mo) μ I s₀ μ₀ I₀ { s with heap := h', toks := tk } := by
  have G := X.good
  have hm : a ∈ μ := List.mem_of_getElem? hl
  obtain ⟨oa, hoa⟩ := ho.live
  have hLT : ∀ b, b = env.locals → b ∈ ownOf env me := fun b e => e ▸ own_locals
  have x : Ext B [env.locals] μ I s.heap μ I h' := ⟨⟨[], by simp⟩, fun _ e => e, fun b o e hb _ hL => hs b o (fun q => hb (q ▸ hm)) (fun q => hL (List.mem_singleton.mpr q)) e, fun b o e => by
    by_cases q : b = a
    · exact ⟨oa, q ▸ hoa⟩
    · by_cases q' : b = env.locals
      · obtain ⟨o', _, _, e', _⟩ := hn
        exact ⟨o', q' ▸ e'⟩
      · exact ⟨o, hs b o q q' e⟩, fun _ e => .inl e, fun _ e => .inl e⟩
  refine X.step (x.weak fun b q => .inl (List.mem_singleton.mp q ▸ own_locals)) ⟨fun b o e => hs b o (fun q => ?_) (fun q => ?_) (G.base b o e), fun p hp => hs _ _ (G.offI a hm p hp) (fun q => X.fr.offI _ own_locals p hp q) (G.imm p hp), by simp [G.len], fun k b mo' h1 h2 => ?_, G.nodup, G.offB, G.offI, G.offT, G.tabI, G.tab.keeps (fun o e => hs _ o (fun q => G.offT (q ▸ hm)) (fun q => X.fr.offT (q ▸ own_locals)) e) fun _ e => e⟩
    (X.fr.extL G x ⟨m, hn, hv⟩ fun _ _ => rfl)
  · have := G.offB a hm
    rw [← q, e] at this; cases this
  · have := X.fr.offB _ own_locals
    rw [← q, e] at this; cases this
  · by_cases hk : k = l
    · subst hk
      rw [hl] at h1; cases h1
      have hlt : k < st.length := by
        have := (List.getElem?_eq_some_iff.mp h2).1
        simpa using this
      rw [List.getElem?_set_self hlt] at h2; cases h2
      exact ho
    · rw [List.getElem?_set_ne (Ne.symm hk)] at h2
      have hne : b ≠ a := fun q => by
        subst q
        obtain ⟨i1, e1⟩ := List.getElem?_eq_some_iff.mp h1
        obtain ⟨i2, e2⟩ := List.getElem?_eq_some_iff.mp hl
        exact hk ((List.getElem_inj G.nodup).mp (e1.trans e2.symm))
      have hbL : b ≠ env.locals := fun q => X.fr.offM _ own_locals (q ▸ List.mem_of_getElem? h1)
      exact (G.rep k b mo' h1 h2).mono (fun _ e => e) (fun _ _ e => e) (fun o e => hs _ o hne hbL e)

/-- one object changes that is no store place, no immutable one, not the table, not of the base -/
theorem GoodH.but {h h' : Heap} (G : GoodH B μ I st h) {c : Addr} (hs : Heap.SameBut c h h') (hM : c ∉ μ) (hI : ∀ p ∈ I, p.1 ≠ c) (hT : c ≠ B.tab) (hB : B.hb.get? c = none) : GoodH B μ I st h' := by
  have kp : ∀ b, b ≠ c → ∀ o, h.get? b = some o → h'.get? b = some o := fun b q o e => (hs.2 b q).trans e
  exact ⟨fun b o e => kp b (fun q => by rw [q, hB] at e; cases e) o (G.base b o e), fun p hp => kp _ (hI p hp) _ (G.imm p hp), G.len,
    fun l a mo h1 h2 => (G.rep l a mo h1 h2).mono (fun _ e => e) (fun _ _ e => e) (fun o e => kp _ (fun q => hM (q ▸ List.mem_of_getElem? h1)) o e), G.nodup, G.offB, G.offI, G.offT, G.tabI, G.tab.keeps (fun o e => kp _ (fun q => hT q.symm) o e) fun _ e => e⟩

theorem Ext.but {own : List Addr} {h h' : Heap} {c : Addr} (hs : Heap.SameBut c h h') (hc : c ∈ own) (hl : ∃ o, h'.get? c = some o) : Ext B own μ I h μ I h' :=
  ⟨⟨[], by simp⟩, fun _ e => e, fun b o e _ _ hb => (hs.2 b fun q => hb (q ▸ hc)).trans e, fun b o e => by
    by_cases q : b = c
    · exact q ▸ hl
    · exact ⟨o, (hs.2 b q).trans e⟩, fun _ e => .inl e, fun _ e => .inl e⟩

theorem sim_setName {x : Str} {v : Value} {mv : MV} {Q : Unit → Shared → Prop} (h : setName me lc x mv = some lc') (hv : V I μ v mv) (X : At B env me lc st μ I s₀ μ₀ I₀ s)
    (k : ∀ s', At B env me lc' st μ I s₀ μ₀ I₀ s' → Q () s') : wpAny B.M A (storeName env x v) Q E s := by
  have F := X.fr
  have G := X.good
  have hk : env.scope.kind = .function := by rw [F.sc]; exact F.kf
  have hkd : env.kindOf x = me.kind x := by unfold Env.kindOf ME.kind; rw [F.sc]
  obtain ⟨h0, h⟩ := ifS h
  obtain rfl := Option.some.inj h
  clear h
  rcases h0 with q | ⟨q, ho⟩
  · obtain ⟨m, hn, hm⟩ := F.ns
    refine wpAny_storeName_local (hkd.trans q) hn (fun h' hn' hs => k _ ?_) (by rw [hk]; rfl)
    have hl : ∃ o, h'.get? env.locals = some o := by
      obtain ⟨o, _, _, e, _⟩ := hn'
      exact ⟨o, e⟩
    have x' : Ext B [env.locals] μ I s.heap μ I h' := Ext.but hs (List.mem_singleton.mpr rfl) hl
    refine X.step (Ext.but hs own_locals hl) (G.but hs (F.offM _ own_locals) (F.offI _ own_locals) (fun q => F.offT (q ▸ own_locals)) (F.offB _ own_locals)) (F.extL G x' ⟨_, hn', fun y mv' hy hl' => ?_⟩ fun y hy => ?_)
    · unfold Lc.set at hl'
      by_cases e : y = x
      · rw [if_pos e] at hl' ⊢
        cases hl'
        exact ⟨v, rfl, hv⟩
      · rw [if_neg e] at hl' ⊢
        exact hm y mv' hy hl'
    · unfold Lc.set
      rw [if_neg]
      intro e
      have := (F.cel y hy).1
      rw [e, q] at this; cases this
  · skip
    obtain ⟨_, c, u, h1, h2, h3⟩ := F.cel x ho
    refine wpAny_storeName_cell hk (hkd.trans q) h1 h2 fun h' hc hs => k _ ?_
    have hmem := own_cell ho h1
    have hl : ∃ o, h'.get? c = some o := let ⟨o, e, _⟩ := hc; ⟨o, e⟩
    have kp : ∀ b, b ≠ c → ∀ o, s.heap.get? b = some o → h'.get? b = some o := fun b q o e => (hs.2 b q).trans e
    refine X.step (tk := s.toks) (Ext.but hs hmem hl) (G.but hs (F.offM _ hmem) (F.offI _ hmem) (fun q => F.offT (q ▸ hmem)) (F.offB _ hmem))
      ⟨F.sc, F.kf, F.nd, F.nc, F.gl, F.bu, F.ab, ?_, F.lk, fun y hy => ?_, F.apart, fun y mv' hy => ?_, F.nl, F.offM, F.offI, F.offT, F.offB, fun a ha => ?_, F.lam⟩
    · obtain ⟨m, hn, hm⟩ := F.ns
      refine ⟨m, hn.at' (kp _ (Ne.symm (F.nl x c ho h1))), fun y mv' hy hl' => hm y mv' hy ?_⟩
      unfold Lc.set at hl'
      rw [if_neg] at hl'
      · exact hl'
      · intro e
        rw [e, q] at hy; cases hy
    · by_cases e : y = x
      · subst e
        exact ⟨q, c, some v, h1, hc, fun mv' e' => by
          unfold Lc.set at e'
          rw [if_pos rfl] at e'; cases e'
          exact ⟨v, rfl, hv⟩⟩
      · obtain ⟨k1, c', u', g1, g2, g3⟩ := F.cel y hy
        have hne : c' ≠ c := fun q => e (F.apart y x c hy ho (q ▸ g1) h1)
        refine ⟨k1, c', u', g1, ?_, fun mv' e' => g3 mv' ?_⟩
        · obtain ⟨o, e1, e2⟩ := g2
          exact ⟨o, kp _ hne o e1, e2⟩
        · unfold Lc.set at e'
          rw [if_neg e] at e'; exact e'
    · obtain ⟨h0, c', v', g1, g2, g3, g4⟩ := F.fre y mv' hy
      obtain ⟨o, e1, e2⟩ := g2
      exact ⟨h0, c', v', g1, ⟨o, kp _ (fun q => g4 (by rw [q]; exact hmem)) o e1, e2⟩, g3, g4⟩
    · by_cases e : a = c
      · exact e ▸ hl
      · obtain ⟨o, e1⟩ := F.live a ha
        exact ⟨o, kp _ e o e1⟩
end
end Mine
end
section
open PySem PySem.W PySem.Calls PyProof.Rows PySem.Spec
namespace Mine

section
variable {B : Base} {env : Env} {me : ME} {lc lc' : Lc} {st st' : St} {μ μ' μ₀ : List Addr} {I I' I₀ : Led} {s s₀ : Shared} {A : Around} {E : Value → Shared → Prop} {n : Nat}

theorem dput_length {k : Str} {m : MV} : ∀ (es : List (Str × MV)), (es.lookup k).isSome = true → (dput es k m).length = es.length
  | [], h => by cases h
  | (k', v') :: r, h => by
    unfold dput
    by_cases e : k' = k
    · rw [if_pos e]; rfl
    · rw [if_neg e, List.length_cons, List.length_cons, dput_length r]
      rw [List.lookup_cons, beq_eq_false_iff_ne.mpr (Ne.symm e)] at h
      exact h

theorem VD.map_id {x : List (Str × Value)} {k : Str} {v : Value} (h : k ∉ x.map (·.1)) : x.map (fun kv => if kv.1 = k then (kv.1, v) else kv) = x := by
  induction x with
  | nil => rfl
  | cons a r ih =>
    simp only [List.map_cons, List.mem_cons, not_or] at h
    rw [List.map_cons, ih h.2, if_neg (fun e => h.1 e.symm)]

theorem VD.map_put {x : List (Str × Value)} {y : List (Str × MV)} {k : Str} {v : Value} {m : MV} (h : VD I μ x y) (nd : (x.map (·.1)).Nodup) (hk : (y.lookup k).isSome = true) (hv : V I μ v m) :
    VD I μ (x.map (fun kv => if kv.1 = k then (kv.1, v) else kv)) (dput y k m) := by
  induction h with
  | nil => cases hk
  | @cons k' u w r q hu hr ih =>
    rw [List.map_cons, List.nodup_cons] at nd
    rw [List.map_cons]
    unfold dput
    by_cases e : k' = k
    · subst e
      rw [if_pos rfl, if_pos rfl, VD.map_id nd.1]
      exact .cons hv hr
    · rw [if_neg e, if_neg e]
      rw [List.lookup_cons, beq_eq_false_iff_ne.mpr (Ne.symm e)] at hk
      exact .cons hu (ih nd.2 hk)

theorem VD.any {x : List (Str × Value)} {y : List (Str × MV)} {k : Str} (h : VD I μ x y) (hk : (y.lookup k).isSome = true) : x.any (fun kv => decide (kv.1 = k)) = true := by
  induction h with
  | nil => cases hk
  | @cons k' u w r q hu hr ih =>
    rw [List.any_cons]
    by_cases e : k' = k
    · simp [e]
    · rw [List.lookup_cons, beq_eq_false_iff_ne.mpr (Ne.symm e)] at hk
      simp [ih hk]

theorem VD.stored {x : List (Str × Value)} {y : List (Str × MV)} {k : Str} {v : Value} {m : MV} (h : VD I μ x y) (nd : (x.map (·.1)).Nodup) (hk : (y.lookup k).isSome = true) (hv : V I μ v m) : VD I μ (PySem.stored x k v) (dput y k m) := by
  unfold PySem.stored
  rw [if_pos (h.any hk)]
  exact h.map_put nd hk hv

theorem sim_slice {value : Expr} {lo' hi' : Option Expr} {p : Pos} {o m : MV} {vo l u : Value} {a : Addr} {lo hi : Option Int} {Q : Value → Shared → Prop} (h : sliceM o lo hi = some m) (ho : V I μ vo o) (X : At B env me lc st μ I s₀ μ₀ I₀ s)
    (hS : s.heap.IsSliceOf a l u .none) (pl : IsPart l lo) (pu : IsPart u hi)
    (k : ∀ v s' I', At B env me lc st μ I' s₀ μ₀ I₀ s' → Le μ I μ I' → V I' μ v m → Q v s') : wpAny B.M A (subscriptTail value (.Slice lo' hi' none p) vo (.ref a)) Q E s := by
  induction o using MV.casesOn with
  | bytes b =>
    obtain ⟨c, hc, rfl⟩ := map_some h
    obtain ⟨t, rfl, hz⟩ := ho.inv
    have e : KBy.picked b.toArray lo hi = c.toArray := by
      rw [KBc.picked_eq]
      simp only [List.size_toArray]
      rw [cut_eq hc]
    refine tail_any (ops := [.ref a, .bytes b.toArray t]) (typeIs_bytes s _ _) FB.slot_bytes_getitem.lookup (getItem_meets (typeIs_bytes _ _ _) (by decide) FB.slot_bytes_getitem FB.entry_bytes_getitem (FB.args_bytes_getitem_2 _ _) (KBc.meets_slice2 b.toArray t a pl pu)
      ⟨hS, ?_, fun t' j => ?_⟩) rfl
    · rw [e, List.size_toArray, sizeLine_eq]
      have := cut_length hc
      omega
    · rw [e]
      exact k _ _ I (X.tok j) .refl (.bytes _ _ (by have := cut_length hc; omega))
  | lst xs =>
    obtain ⟨ys, hc, rfl⟩ := map_some h
    obtain ⟨_, _, _, _, rfl, ma, ca, da, ra, za⟩ := ho.inv
    have L := isList_of (X.good.imm _ ma) ca da
    refine tail_any (ops := [.ref a, .ref _]) L.typeIs PySem.slot_list_getitem.lookup (wpAny_getItem_list_slice L hS pl pu IsPart.none (fun e => nomatch e) ?_ ?_) rfl
    · rw [slicePick_plain]
      simp only [List.size_toArray]
      obtain ⟨X', l⟩ := X.pushI (o := { cls := .type "list", data := .seq ((‹List Value›.drop (lo.elim 0 (clipAt ‹List Value›.length))).take (hi.elim ‹List Value›.length (clipAt ‹List Value›.length) - lo.elim 0 (clipAt ‹List Value›.length))).toArray }) rfl s.toks
      refine k _ _ _ X' l (.lst (.head _) rfl rfl ?_ (by have := cut_length hc; omega))
      have := ((l.VS ra).drop (lo.elim 0 (clipAt xs.length))).take (hi.elim xs.length (clipAt xs.length) - lo.elim 0 (clipAt xs.length))
      rw [cut_eq hc] at this
      rw [ra.length] at this ⊢
      exact this
    · rw [List.size_toArray, ra.length, sizeLine_eq]; omega
  | _ => exact no_some h

theorem put_list {l : Nat} {a : Addr} {i : Int} {t : Tok} {m : MV} {v : Value} {xs : List MV} {Q : Unit → Shared → Prop} (hb : 0 ≤ i ∧ i.toNat < xs.length) (hl : μ[l]? = some a) (hst : st[l]? = some (.list xs)) (hv : V I μ v m) (X : At B env me lc st μ I s₀ μ₀ I₀ s)
    (k : ∀ s', At B env me lc (st.set l (.list (xs.set i.toNat m))) μ I s₀ μ₀ I₀ s' → Q () s') : wpAny B.M A (setItem (.ref a) (.int i t) v) Q E s := by
  obtain ⟨vs, c, L, ra, za⟩ := X.good.listAt hl hst
  refine ki_setAt L hb.1 (by have := hb.2; omega) (by rw [List.size_toArray, ra.length]; have := hb.2; omega) (k _ ?_)
  have q := PySem.IsL.update L (·.setIfInBounds i.toNat v)
  have e : vs.toArray.setIfInBounds i.toNat v = (vs.set i.toNat v).toArray := by simp
  rw [e] at q
  exact X.put (mo := .list (xs.set i.toNat m)) hl (Heap.SameBut.update ..).extBut ⟨vs.set i.toNat v, _, q, ra.set _ hv, by rw [List.length_set]; exact za⟩ s.toks
theorem put_dict {l : Nat} {a : Addr} {key : Str} {t : Tok} {m : MV} {v : Value} {es : List (Str × MV)} {Q : Unit → Shared → Prop} (hb : (es.lookup key).isSome = true) (hl : μ[l]? = some a) (hst : st[l]? = some (.dict es)) (hv : V I μ v m) (X : At B env me lc st μ I s₀ μ₀ I₀ s)
    (k : ∀ s', At B env me lc (st.set l (.dict (dput es key m))) μ I s₀ μ₀ I₀ s' → Q () s') : wpAny B.M A (setItem (.ref a) (.str key t) v) Q E s := by
  obtain ⟨hne, kvs, D, ra⟩ := X.good.dict hl hst
  have hz : kvs.length ≤ sizeLine := by rw [ra.length, sizeLine_eq]; exact Nat.le_trans hne.2 (by decide)
  refine wpAny_setItem_pairs (knd := strKind B.prog B.w) (k := key) (by simp [PySem.strKind, Value.isStrOf]) D (fun h' hD hs => k _ ?_) hz
  obtain ⟨_, _, _, _, _, _, _, _, nd⟩ := D
  exact X.put (mo := .dict _) hl hs.extBut ⟨⟨hne.1, by rw [dput_length _ hb]; exact hne.2⟩, _, hD, ra.stored nd hb hv⟩ _
theorem sim_setItem {o i m : MV} {vo vi v : Value} {Q : Unit → Shared → Prop} (h : setItemM o i m st = some st') (ho : V I μ vo o) (hi : V I μ vi i) (hv : V I μ v m) (X : At B env me lc st μ I s₀ μ₀ I₀ s)
    (k : ∀ s', At B env me lc st' μ I s₀ μ₀ I₀ s' → Q () s') : wpAny B.M A (setItem vo vi v) Q E s := by
  obtain ⟨l, e, h⟩ := bind_some h
  obtain ⟨_, rfl, hl⟩ := (asLocM_eq e ▸ ho).inv
  induction i using MV.casesOn with
  | int i =>
    obtain ⟨xs, e, h⟩ := bind_some h
    obtain ⟨hb, h⟩ := ifS h
    obtain rfl := Option.some.inj h
    obtain ⟨_, rfl⟩ := hi.inv
    exact put_list hb hl (listAt_eq e) hv X k
  | str key =>
    obtain ⟨es, e, h⟩ := bind_some h
    obtain ⟨hb, h⟩ := ifS h
    obtain rfl := Option.some.inj h
    obtain ⟨_, rfl⟩ := hi.inv
    exact put_dict hb hl (dictAt_eq e) hv X k
  | _ => exact no_some h

theorem sim_append {l : Nat} {a : Addr} {xs : List MV} {m : MV} {v : Value} {Q : Value → Shared → Prop} (hl : μ[l]? = some a) (hst : st[l]? = some (.list xs)) (hz : xs.length ≤ 1048576) (hv : V I μ v m) (X : At B env me lc st μ I s₀ μ₀ I₀ s)
    (k : ∀ s', At B env me lc (st.set l (.list (xs ++ [m]))) μ I s₀ μ₀ I₀ s' → Q .none s') : wpAny B.M A (call (.builtin "list.append") [.ref a, v]) Q E s := by
  obtain ⟨vs, c, L, ra, za⟩ := X.good.listAt hl hst
  refine append_at L (fun h' hs hL => k _ (X.put (mo := .list (xs ++ [m])) hl hs.extBut ⟨vs ++ [v], c + 1, by rw [List.push_toArray] at hL; exact hL, ra.append (.cons hv .nil), ?_⟩ s.toks)) (by rw [List.size_toArray, ra.length, sizeLine_eq]; omega)
  rw [List.length_append]; simp only [List.length_cons, List.length_nil]; omega

theorem V.handed {v : Value} {m : MV} (h : V I μ v m) : handedIn v = true :=
  V.casesOn (motive_1 := fun v _ _ => handedIn v = true) h rfl (fun _ => rfl) (fun _ _ => rfl) (fun _ _ => rfl) (fun _ _ _ => rfl) (fun _ _ _ _ _ => rfl) (fun _ _ _ _ _ => rfl) (fun _ => rfl) (fun _ _ => rfl)
    (fun _ => rfl) (fun _ => rfl) (fun b => by cases b <;> decide +kernel) (fun _ _ _ _ _ _ => rfl) (fun _ => rfl)

theorem VE.getL {x : List DictEntry} {y : List (Str × MV)} (h : VE I μ x y) (k : Str) : (y.lookup k = none → PySem.W.getL k x = some none) ∧ ∀ m, y.lookup k = some m → ∃ v, PySem.W.getL k x = some (some v) ∧ V I μ v m := by
  have nr : x.any (·.refKey) = false := by
    induction h with
    | nil => rfl
    | cons _ _ ih => rw [List.any_cons, ih]; rfl
  have main : (y.lookup k = none → x.find? (·.key.isStr k) = none) ∧ ∀ m, y.lookup k = some m → ∃ e, x.find? (·.key.isStr k) = some e ∧ V I μ e.val m := by
    clear nr
    induction h with
    | nil => exact ⟨fun _ => rfl, fun _ e => nomatch e⟩
    | @cons hs k' t v m r q hv hr ih =>
      by_cases e : k = k'
      · subst e
        have e1 : List.lookup k ((k, m) :: q) = some m := by simp
        have e2 : List.find? (fun x : DictEntry => x.key.isStr k) (⟨hs, .str k t, v⟩ :: r) = some ⟨hs, .str k t, v⟩ := List.find?_cons_of_pos (by simp [Value.isStr])
        rw [e1, e2]
        exact ⟨fun e => (nomatch e), fun m' e => ⟨_, rfl, by cases e; exact hv⟩⟩
      · have e1 : List.lookup k ((k', m) :: q) = List.lookup k q := by rw [List.lookup_cons, beq_eq_false_iff_ne.mpr e]
        have e2 : List.find? (fun x : DictEntry => x.key.isStr k) (⟨hs, .str k' t, v⟩ :: r) = List.find? (fun x : DictEntry => x.key.isStr k) r := List.find?_cons_of_neg (by simpa [Value.isStr] using fun e' : k' = k => e e'.symm)
        rw [e1, e2]
        exact ih
  unfold PySem.W.getL
  refine ⟨fun e => ?_, fun m e => ?_⟩
  · rw [main.1 e, nr]; rfl
  · obtain ⟨en, h1, h2⟩ := main.2 m e
    rw [h1]
    exact ⟨_, rfl, h2⟩

theorem VE.put {x : List DictEntry} {y : List (Str × MV)} (h : VE I μ x y) {k : Str} {hs : Int} {t : Tok} {v : Value} {m : MV} (hv : V I μ v m) : VE I μ (putL k hs (.str k t) v x) (dput y k m) := by
  induction h with
  | nil => exact .cons hv .nil
  | @cons hs' k' t' v' m' r q hv' hr ih =>
    unfold putL dput
    by_cases e : k' = k
    · subst e
      rw [if_pos (by simp [Value.isStr]), if_pos rfl]
      exact .cons hv hr
    · rw [if_neg (by simpa [Value.isStr] using e), if_neg e]
      exact .cons hv' ih
theorem VE.length {x : List DictEntry} {y : List (Str × MV)} (h : VE I μ x y) : x.length = y.length := by
  induction h with
  | nil => rfl
  | cons _ _ ih => simp [ih]
theorem dput_le {k : Str} {m : MV} : ∀ (es : List (Str × MV)), (dput es k m).length ≤ es.length + 1
  | [] => Nat.le_refl _
  | (k', v') :: r => by
    unfold dput
    split
    · simp
    · have := dput_le (k := k) (m := m) r
      simp only [List.length_cons]; omega

/-- all that lives beside the base, the locals and one object -/
theorem rest_of (h₀ h : Heap) (L d : Addr) : ∃ r : List (Addr × Obj), (∀ b o, h.get? b = some o → h₀.get? b = none → b ≠ L → b ≠ d → (b, o) ∈ r) ∧ ∀ p ∈ r, h.get? p.1 = some p.2 ∧ p.1 ≠ L ∧ h₀.get? p.1 = none ∧ p.1 ≠ d := by
  refine ⟨(List.range h.objs.size).filterMap fun b => if (h₀.get? b).isNone ∧ b ≠ L ∧ b ≠ d then (h.get? b).map (b, ·) else none, fun b o e e0 hL hd => ?_, fun p hp => ?_⟩
  · refine List.mem_filterMap.mpr ⟨b, List.mem_range.mpr (Heap.lt_size e), ?_⟩
    rw [if_pos ⟨by rw [e0]; rfl, hL, hd⟩, e]
    rfl
  · obtain ⟨b, hb, e⟩ := List.mem_filterMap.mp hp
    split at e
    · rename_i c
      obtain ⟨o, ho, rfl⟩ := map_some e
      exact ⟨ho, c.2.1, isNone_eq c.1, c.2.2⟩
    · cases e

/-- what the program's classes are, as the walk's small heap K shows it -/
structure ClsOk (B : Base) (K : Frag) : Prop where
  kin : K.In B.hb
  meth : ∀ C a f, B.P.meth C a = some (some f) → plainGet K C a = true ∧ findIn K (.ref C) a = some (some (.ref f)) ∧ isFn K (.ref f) = true
  attr : ∀ C a, B.P.meth C a = some none → plainGet K C a = true ∧ hasDictIn K C = true ∧ findIn K (.ref C) a = some none ∧ findIn K (.ref C) "__setattr__" = some (some (.builtin "object.__setattr__")) ∧ plainOver K C = true ∧ takerIn K C a = some none
  init : ∀ C i, B.P.init C = some i → makesIn K C = true ∧ findIn K (.ref C) "__init__" = some (some (.ref i)) ∧ isFn K (.ref i) = true

variable {K : Frag}
theorem At.frH (X : At B env me lc st μ I s₀ μ₀ I₀ s) : ∃ m, Fr B.hb env.locals s.heap m ∧ ∀ x mv, me.kind x = some .local → lc x = some mv → ∃ v, m x = some v ∧ V I μ v mv :=
  let ⟨m, hn, hv⟩ := X.fr.ns
  ⟨m, ⟨hn, X.good.base, X.fr.ab⟩, hv⟩

theorem GoodH.inst {h : Heap} (G : GoodH B μ I st h) {x d : Addr} {C l : Nat} {fs : List (Str × MV)} (hx : (x, instObj C d) ∈ I) (hl : μ[l]? = some d) (hs : st[l]? = some (.inst fs)) :
    ∃ es n, InstAt h x (instObj C d) C (some (dictOf es n)) ∧ VE I μ es fs ∧ h.get? d = some (dictOf es n) := by
  obtain ⟨es, n, hd, hv⟩ := G.rep l d _ hl hs
  exact ⟨es, n, ⟨G.imm _ hx, rfl, rfl, hd⟩, hv, hd⟩

theorem sim_attr (ok : ClsOk B K) {o m : MV} {a : Str} {v : Value} {b : Bool} {Q : Value → Shared → Prop} (h : attrM B.P o a st = some m) (ho : V I μ v o) (X : At B env me lc st μ I s₀ μ₀ I₀ s)
    (k : ∀ r tk, V I μ r m → Q r { s with toks := tk }) : wpAny B.M A (getAttr v a b) Q E s := by
  obtain ⟨q, e, h⟩ := bind_some h
  obtain ⟨hm, h⟩ := ifS h
  obtain ⟨fs, hst, h⟩ := bind_some h
  obtain ⟨_, _, rfl, hx, hl⟩ := (insM_eq e ▸ ho).inv
  obtain ⟨es, n, Iat, hv, _⟩ := X.good.inst hx hl (instAt_eq hst)
  obtain ⟨r, hr, hV⟩ := (hv.getL a).2 m h
  obtain ⟨mm, F, _⟩ := X.frH
  obtain ⟨a1, a2, a3, _⟩ := ok.attr q.1 a hm
  exact get_own F ok.kin Iat a1 a2 a3 rfl hr hV.handed (k r _ hV)

theorem sim_setAttr (ok : ClsOk B K) {o m : MV} {a : Str} {v r : Value} {Q : Unit → Shared → Prop} (h : setAttrM B.P o a m st = some st') (ho : V I μ v o) (hr : V I μ r m) (X : At B env me lc st μ I s₀ μ₀ I₀ s)
    (k : ∀ s', At B env me lc st' μ I s₀ μ₀ I₀ s' → Q () s') : wpAny B.M A (setAttr v a r) Q E s := by
  obtain ⟨q, e, h⟩ := bind_some h
  obtain ⟨hm, h⟩ := ifS h
  obtain ⟨fs, hst, h⟩ := bind_some h
  obtain ⟨hz, h⟩ := ifS h
  obtain rfl := Option.some.inj h
  obtain ⟨x, d, rfl, hx, hl⟩ := (insM_eq e ▸ ho).inv
  clear h e
  obtain ⟨es, n, Iat, hv, hd⟩ := X.good.inst hx hl (instAt_eq hst)
  obtain ⟨mm, F, hmm⟩ := X.frH
  obtain ⟨a1, a2, a3, a4, a5, a6⟩ := ok.attr q.1 a hm
  have hdM : d ∈ μ := List.mem_of_getElem? hl
  obtain ⟨rs, r1, r2⟩ := rest_of B.hb s.heap env.locals d
  have N : News B.hb env.locals s.heap ((d, dictOf es n) :: rs) := fun p hp => by
    rcases List.mem_cons.mp hp with rfl | hp
    · exact ⟨hd, fun e => X.fr.offM _ own_locals (e ▸ hdM), X.good.offB d hdM⟩
    · exact ⟨(r2 p hp).1, (r2 p hp).2.1, (r2 p hp).2.2.1⟩
  refine PySem.W.set_dict F ok.kin N Iat rfl a4 a5 a6 a2 ?_ rfl (.head fun p hp => (r2 p hp).2.2.2) ?_ fun h' F' N' => k _ ?_
  · cases g : fs.lookup a with
    | none => rw [(hv.getL a).1 g]; rfl
    | some u => obtain ⟨_, e, _⟩ := (hv.getL a).2 u g; rw [e]; rfl
  · rw [(hv.put hr).length]
    have := dput_le (k := a) (m := m) fs
    omega
  · refine X.putL hl (fun b o' hb hL e => ?_) F'.ns hmm (mo := .inst _) ⟨_, _, (N' _ (.head _)).1, hv.put hr⟩ _
    cases q : B.hb.get? b with
    | some o'' =>
      have := X.good.base _ _ q
      rw [e] at this; cases this
      exact F'.keep _ _ q
    | none => exact (N' _ (.tail _ (r1 b o' e q hL hb))).1
end
end Mine
end
section
open PySem PySem.W PySem.Calls PyProof.Rows PySem.Spec
namespace Mine

section
variable {prog : Program} {w : World} {A : Around} {E : Value → Shared → Prop} {s : Shared}

noncomputable abbrev ByteAt (b : Array UInt8) (i : Nat) (v : Value) : Prop := ∃ c u, b[i]? = some c ∧ v = .int (c.toNat : Int) u

theorem bytes_len_look : typeLookup (.type "bytes") "__len__" = pure (some (.builtin "bytes.__len__")) := FB.slot_bytes_len.lookup

theorem extend_bytes {R : Result → Shared → Prop} (hh : A.handled = none) (x : Array UInt8) (t : Tok) (S : Addr) (res : Value) (c₀ : Nat) (hS : s.heap.get? S = some { cls := .type "list", data := .seq #[] c₀ })
    (hR : ∀ h' tk acc' c', (∀ b o, b ≠ S → s.heap.get? b = some o → h'.get? b = some o) → h'.get? S = some { cls := .type "list", dict := none, data := .seq acc' c', slots := #[] } →
      ItemsOf (ByteAt x) acc' x.size → R (.ok (.ret res)) { s with heap := h', toks := tk }) (hn : x.size ≤ sizeLine) :
    wpAny (model prog w) A.in1 (Builtin.List.listExtendWith (.ref S) (.bytes x t) res)
      (fun fin s' => match fin with | .done f => R (.ok f) s' | .again c' => c'.quiet = true ∧ codeAny (model prog w) A c' R s') (fun e s' => R (.error e) s') s := by
  have hSI : S ≠ s.heap.objs.size := Nat.ne_of_lt (Heap.lt_size hS)
  have hSf : S ∉ [s.heap.objs.size] := fun hm => hSI (List.mem_singleton.mp hm)
  unfold Builtin.List.listExtendWith
  refine wpAny_bind (wpAny_typeOf (T := "bytes") (typeIs_bytes _ x t) ?_)
  have h1 : Builtin.List.listSameRef (.ref S) (.bytes x t) = false := rfl
  have h2 : (Value.type "bytes" == Value.type "list") = false := by decide
  have h3 : (Value.type "bytes" == Value.type "tuple") = false := by decide
  simp only [h1, h2, h3, Bool.or_false, Bool.false_eq_true, if_false]
  refine wpAny_bind (KBw.pyIter_bytes ?_)
  refine wpAny_bind (wpAny_holding ?_)
  unfold Builtin.List.listLengthHint
  refine wpAny_bind (wpAny_specialOf (T := "bytes") (typeIs_bytes _ x t) bytes_len_look ?_)
  wp_delta
  refine wpAny_bind (wpAny_isInstance (T := "bytes") (b := true) (typeIs_bytes _ x t) (by rw [isSubtype_type]; kernel_rfl) ?_)
  show wpAny _ _ (typeOf (Value.bytes x t) >>= _) _ _ _
  refine wpAny_bind (wpAny_typeOf (T := "bytes") (typeIs_bytes _ x t) ?_)
  refine wpAny_pure ?_
  rw [if_neg (by decide)]
  have W := KBw.walks (prog := prog) (w := w) (A := A.in1) hh s.heap.objs.size x t
  refine wpAny_pure ⟨plainId_quiet F.plain_extend_loop _, codeAny_extend_loopS W.toS hn _ hSf _ x.size 0 _ _ _ rfl (Nat.zero_le _) ⟨_, Heap.get?_push_size _ rfl, rfl, rfl⟩ (Heap.get?_push_of_some _ hS) (ItemsOf.nil _) fun s' acc' c' hm hS' hacc => ?_⟩
  rw [Moved.eq_with hm]
  refine hR s'.heap s'.toks acc' c' (fun b ob hb e => hm.heap b ob (fun hmem => ?_) (Heap.get?_push_of_some _ e)) hS' hacc
  rcases List.mem_cons.mp hmem with e' | hmem
  · exact hb e'
  · exact absurd (Heap.lt_size e) (by rw [List.mem_singleton.mp hmem]; exact Nat.lt_irrefl _)

theorem list_init_bytes {R : Result → Shared → Prop} (hh : A.handled = none) (x : Array UInt8) (t : Tok) (S : Addr) (hS : s.heap.get? S = some { cls := .type "list", data := .seq #[] })
    (hR : ∀ h' tk acc' c', (∀ b o, b ≠ S → s.heap.get? b = some o → h'.get? b = some o) → h'.get? S = some { cls := .type "list", dict := none, data := .seq acc' c', slots := #[] } →
      ItemsOf (ByteAt x) acc' x.size → R (.ok (.ret .none)) { s with heap := h', toks := tk }) (hn : x.size ≤ sizeLine) :
    wpAny (model prog w) A.in1 (Builtin.«list.__init__» ⟨[.ref S, .bytes x t], []⟩)
      (fun fin s' => match fin with | .done f => R (.ok f) s' | .again c' => c'.quiet = true ∧ codeAny (model prog w) A c' R s') (fun e s' => R (.error e) s') s := by
  show wpAny _ _ (do let old ← Builtin.List.listItems (.ref S); Builtin.List.listUpdate (.ref S) (fun _ => #[]); letGo old.toList.reverse; Builtin.List.listExtendWith (.ref S) (.bytes x t) .none) _ _ s
  refine wpAny_bind ?_
  unfold Builtin.List.listItems
  refine wpAny_bind (wpAny_seqItems hS rfl (wpAny_pure ?_))
  show wpAny _ _ (updateSeq S (fun _ => #[]) >>= fun _ => letGo (#[] : Array Value).toList.reverse >>= fun _ => Builtin.List.listExtendWith (.ref S) (.bytes x t) .none) _ _ s
  refine wpAny_bind (wpAny_updateSeq hS rfl ?_)
  have hS₂ := Heap.get?_update_self (Obj.mapSeq (fun _ => (#[] : Array Value))) hS rfl
  have oth : ∀ b o, b ≠ S → s.heap.get? b = some o → (s.heap.update S (Obj.mapSeq (fun _ => (#[] : Array Value)))).get? b = some o :=
    fun b o hb e => (Heap.get?_update_other _ _ (Ne.symm hb)).trans e
  refine wpAny_bind (wpAny_letGo ?_)
  refine extend_bytes (hn := hn) hh x t S .none _ hS₂ fun h' tk acc' c' hk hS' hacc => ?_
  exact hR h' tk acc' c' (fun b o hb e => hk b o hb (oth b o hb e)) hS' hacc

theorem call_list_bytes {Q : Value → Shared → Prop} (hh : A.handled = none) (x : Array UInt8) (t : Tok)
    (hQ : ∀ h' tk acc' c', (∀ b o, s.heap.get? b = some o → h'.get? b = some o) →
      h'.get? s.heap.objs.size = some { cls := .type "list", dict := none, data := .seq acc' c', slots := #[] } → ItemsOf (ByteAt x) acc' x.size → Q (.ref s.heap.objs.size) { s with heap := h', toks := tk }) (hn : x.size ≤ sizeLine) :
    wpAny (model prog w) A (call (.type "list") [.bytes x t]) Q E s := by
  refine callType_codes (Q₁ := fun obj s₁ => obj = .ref s.heap.objs.size ∧ s₁ = { s with heap := s.heap.push { cls := .type "list", data := .seq #[] } }) F.called_list (F.typeCall_list_1 _) F.entry_list_init
    (code_list_new _ ⟨rfl, rfl⟩) fun obj s₁ h₁ => ?_
  obtain ⟨rfl, rfl⟩ := h₁
  have hS : (s.heap.push { cls := .type "list", data := .seq #[] }).get? s.heap.objs.size = some { cls := .type "list", data := .seq #[] } := Heap.get?_push_size _ rfl
  refine ⟨⟨_, hS, rfl⟩, F.args_list_init_2 _ _, list_init_bytes (A := A.in1) (hn := hn) hh x t _ hS fun h' tk acc' c' hk hS' hacc => ?_⟩
  exact ⟨rfl, hQ h' tk acc' c' (fun b o e => hk b o (Nat.ne_of_lt (Heap.lt_size e)) (Heap.get?_push_of_some _ e)) hS' hacc⟩
end

section
variable {B : Base} {env : Env} {me : ME} {lc lc' : Lc} {st st' : St} {μ μ' μ₀ : List Addr} {I I' I₀ : Led} {s s₀ : Shared} {A : Around} {E : Value → Shared → Prop} {n : Nat}

theorem bytes_inv {x : MV} {xs : List MV} {l : List UInt8} (h : bytesOf (x :: xs) = some l) : ∃ i q, x = .int i ∧ (0 ≤ i ∧ i < 256) ∧ bytesOf xs = some q ∧ UInt8.ofNat i.toNat :: q = l := by
  obtain ⟨i, e, g⟩ := bind_some (show (asIntM x).bind (fun i => if 0 ≤ i ∧ i < 256 then (bytesOf xs).map (UInt8.ofNat i.toNat :: ·) else Option.none) = some l from h)
  obtain ⟨hi, g⟩ := ifS g
  obtain ⟨q, hq, e'⟩ := map_some g
  exact ⟨i, q, asIntM_eq e, hi, hq, e'⟩
theorem bytes_ints : ∀ {xs : List MV} {l : List UInt8}, bytesOf xs = some l → ∃ ns : List Int, allInt xs = some ns ∧ (∀ n ∈ ns, 0 ≤ n ∧ n < 256) ∧ l = ns.map fun n => n.toNat.toUInt8 := by
  intro xs
  induction xs with
  | nil => exact fun h => ⟨[], rfl, (fun _ h => nomatch h), (Option.some.inj h).symm⟩
  | cons x r ih =>
    intro l h
    obtain ⟨i, q, rfl, hi, hq, rfl⟩ := bytes_inv h
    obtain ⟨ns, h1, h2, rfl⟩ := ih hq
    refine ⟨i :: ns, ?_, fun n hn => (List.mem_cons.mp hn).elim (fun e => e ▸ hi) (h2 n), rfl⟩
    show (allInt r).map (i :: ·) = _
    rw [h1]; rfl

theorem VS_range {a c : Int} : ∀ {vs : List Value} {n : Nat}, vs.length = n → (∀ j v, vs[j]? = some v → ∃ t, v = Value.int (a + (j : Nat) * c) t) → VS I μ vs ((rangeInts a c n).map .int)
  | [], n, h, _ => by subst h; exact .nil
  | v :: vs, n, h, hv => by
    subst h
    obtain ⟨t, rfl⟩ := hv 0 v rfl
    rw [List.length_cons]
    show VS I μ _ (MV.int a :: (rangeInts (a + c) c vs.length).map .int)
    have e : a + ((0 : Nat) : Int) * c = a := by simp
    rw [e]
    refine .cons (.int _ _) (VS_range rfl fun j v hj => ?_)
    obtain ⟨t, rfl⟩ := hv (j + 1) v (by simpa using hj)
    refine ⟨t, ?_⟩
    congr 1
    have : ((j + 1 : Nat) : Int) * c = (j : Int) * c + c := by rw [Int.natCast_add, Int.add_mul]; simp
    omega
theorem VS_bytes : ∀ {vs : List Value} {b : List UInt8}, vs.length = b.length → (∀ j v, vs[j]? = some v → ByteAt b.toArray j v) → VS I μ vs (b.map fun u => .int u.toNat)
  | [], b, h, _ => by
    have : b = [] := List.length_eq_zero_iff.mp h.symm
    subst this; exact .nil
  | v :: vs, [], h, _ => by simp at h
  | v :: vs, c :: b, h, hv => by
    obtain ⟨c', u, h1, rfl⟩ := hv 0 v rfl
    simp at h1
    subst h1
    refine .cons (.int _ _) (VS_bytes (by simpa using h) fun j v hj => ?_)
    obtain ⟨c', u, h1, h2⟩ := hv (j + 1) v (by simpa using hj)
    exact ⟨c', u, by simpa using h1, h2⟩

theorem rangeInts_length (a c : Int) : ∀ n, (rangeInts a c n).length = n
  | 0 => rfl
  | n + 1 => by
    show ((a :: rangeInts (a + c) c n)).length = n + 1
    rw [List.length_cons, rangeInts_length (a + c) c n]
theorem natAbs_if (a : Int) : (if a < 0 then -a else a) = a.natAbs := by split <;> omega

theorem big_new (X : At B env me lc st μ I s₀ μ₀ I₀ s) (hbig : sysModules < B.hb.objs.size) : s.heap.objs.size ≠ sysModules := by
  have h1 := X.fr.ab
  obtain ⟨o, ho⟩ := X.fr.live _ own_locals
  exact Nat.ne_of_gt (Nat.lt_trans (Nat.lt_of_lt_of_le hbig h1) (Heap.lt_size ho))

theorem range_small {a b c : Int} (h : smallR a b = true) (hc : c = 1 ∨ c = -1) : Builtin.Range.small a b c = true ∧ Builtin.Range.rangeSize a b c = (rangeLen a b c : Nat) ∧ rangeLen a b c ≤ 2097152 := by
  unfold smallR at h
  simp only [Bool.and_eq_true, decide_eq_true_eq] at h
  obtain ⟨⟨⟨h1, h2⟩, h3⟩, h4⟩ := h
  have e : Builtin.Range.rangeSize a b c = (rangeLen a b c : Nat) := by
    unfold Builtin.Range.rangeSize rangeLen
    rcases hc with rfl | rfl
    · simp only [show (1 : Int) > 0 by decide, if_true, Int.ediv_one]
      split <;> omega
    · simp only [show ¬ ((-1 : Int) > 0) by decide, if_false, if_true, Int.neg_neg, Int.ediv_one, show ¬ ((-1 : Int) = 1) by decide]
      split <;> omega
  have l : rangeLen a b c ≤ 2097152 := by
    unfold rangeLen
    split
    · omega
    · split <;> omega
  refine ⟨?_, e, l⟩
  unfold Builtin.Range.small
  rw [e]
  simp only [Builtin.Range.rangeFitsLong, Bool.and_eq_true, Bool.or_eq_true, decide_eq_true_eq]
  rcases hc with rfl | rfl
  · refine ⟨⟨⟨⟨by omega, by omega⟩, by omega⟩, by omega⟩, .inr ?_⟩
    simp only [show (1 : Int) > 0 by decide, if_true]
    simp only [Bool.and_eq_true, decide_eq_true_eq]
    omega
  · refine ⟨⟨⟨⟨by omega, by omega⟩, by omega⟩, by omega⟩, .inr ?_⟩
    simp only [show ¬ ((-1 : Int) > 0) by decide, if_false]
    simp only [Bool.and_eq_true, decide_eq_true_eq]
    omega

theorem one_inv {vs : List Value} {args : List MV} {x : MV} (h : one args = some x) (hv : VS I μ vs args) : ∃ v, vs = [v] ∧ V I μ v x := by
  rw [one_eq h] at hv
  obtain ⟨v, r, rfl, h1, h2⟩ := hv.inv
  exact ⟨v, by rw [show r = [] from h2.inv], h1⟩
theorem sim_len {x r : MV} {v : Value} {Q : Value → Shared → Prop} (h : (lenM x st).map (fun (n : Nat) => (MV.int n, st)) = some (r, st')) (h1 : V I μ v x) (X : At B env me lc st μ I s₀ μ₀ I₀ s)
    (k : ∀ v s' μ' I', At B env me lc st' μ' I' s₀ μ₀ I₀ s' → Le μ I μ' I' → V I' μ' v r → Q v s') : wpAny B.M A (call (.builtin "len") [v]) Q E s := by
  obtain ⟨n, hn, h⟩ := map_some h
  obtain ⟨rfl, rfl⟩ := some2 (congrArg some h)
  clear h
  induction x using MV.casesOn with
  | bytes b =>
    obtain rfl := Option.some.inj hn
    obtain ⟨t, rfl, hz⟩ := h1.inv
    exact len_bytes (by rw [List.size_toArray]; exact Nat.le_trans hz (by decide)) (k _ _ μ I (X.tok _) .refl (.int _ _))
  | tup b =>
    obtain rfl := Option.some.inj hn
    obtain ⟨_, _, _, _, rfl, ma, ca, da, ra, za⟩ := h1.inv
    refine PyProof.Rows.len_tuple (isTup_of (X.good.imm _ ma) ca da) (by rw [List.size_toArray, ra.length]; omega) ?_
    rw [List.size_toArray, ra.length]
    exact (k _ _ μ I (X.tok _) .refl (.int _ _))
  | lst b =>
    obtain rfl := Option.some.inj hn
    obtain ⟨_, _, _, _, rfl, ma, ca, da, ra, za⟩ := h1.inv
    refine PyProof.Rows.len_list (isList_of (X.good.imm _ ma) ca da) (by rw [List.size_toArray, ra.length]; omega) ?_
    rw [List.size_toArray, ra.length]
    exact (k _ _ μ I (X.tok _) .refl (.int _ _))
  | loc l =>
    obtain ⟨xs, hst, rfl⟩ := map_some hn
    obtain ⟨_, rfl, hl⟩ := h1.inv
    obtain ⟨vs, L, ra, za⟩ := X.good.list hl (listAt_eq hst)
    refine PyProof.Rows.len_list L (by rw [List.size_toArray, ra.length]; omega) ?_
    rw [List.size_toArray, ra.length]
    exact (k _ _ μ I (X.tok _) .refl (.int _ _))
  | _ => exact no_some hn

theorem range_inv {args : List MV} {r : MV} (h : rangeM args = some r) : (∃ b, args = [.int b] ∧ .rng 0 b 1 = r) ∨ (∃ a b, args = [.int a, .int b] ∧ .rng a b 1 = r) ∨ ∃ a b c, args = [.int a, .int b, .int c] ∧ (c = 1 ∨ c = -1) ∧ .rng a b c = r := by
  induction args using List.casesOn with
  | nil => exact no_some h
  | cons x q => induction q using List.casesOn with
    | nil =>
      obtain ⟨a, e, h⟩ := bind_some h
      exact .inl ⟨a, by rw [asIntM_eq e], Option.some.inj (ifS h).2⟩
    | cons y q => induction q using List.casesOn with
      | nil =>
        obtain ⟨a, e, h⟩ := bind_some h
        obtain ⟨b, e', h⟩ := bind_some h
        exact .inr (.inl ⟨a, b, by rw [asIntM_eq e, asIntM_eq e'], Option.some.inj (ifS h).2⟩)
      | cons z q => induction q using List.casesOn with
        | nil =>
          obtain ⟨a, e, h⟩ := bind_some h
          obtain ⟨b, e', h⟩ := bind_some h
          obtain ⟨c, e'', h⟩ := bind_some h
          exact .inr (.inr ⟨a, b, c, by rw [asIntM_eq e, asIntM_eq e', asIntM_eq e''], (ifS h).1.2, Option.some.inj (ifS h).2⟩)
        | cons => exact no_some h
theorem sim_range {args : List MV} {r : MV} {vs : List Value} {Q : Value → Shared → Prop} (h : callB .range args st = some (r, st')) (hv : VS I μ vs args) (X : At B env me lc st μ I s₀ μ₀ I₀ s)
    (k : ∀ v s' μ' I', At B env me lc st' μ' I' s₀ μ₀ I₀ s' → Le μ I μ' I' → V I' μ' v r → Q v s') : wpAny B.M A (call (.type "range") vs) Q E s := by
  obtain ⟨n, hn, h⟩ := map_some h
  obtain ⟨rfl, rfl⟩ := some2 (congrArg some h)
  clear h
  rcases range_inv hn with ⟨b, rfl, rfl⟩ | ⟨a, b, rfl, rfl⟩ | ⟨a, b, c, rfl, hc, rfl⟩
  · obtain ⟨_, _, rfl, h1, h2⟩ := hv.inv
    obtain rfl := h2.inv
    obtain ⟨t, rfl⟩ := h1.inv
    obtain ⟨X', l⟩ := X.pushI (o := { cls := .type "range", data := .fields #[.int 0 s.toks, .int b t, .int 1 (s.toks + 1)] }) rfl (s.toks + 1 + 1)
    exact call_range_1 (k _ _ _ _ X' l (.rng (.head _)))
  · obtain ⟨_, _, rfl, h1, h2⟩ := hv.inv
    obtain ⟨_, _, rfl, g2, h3⟩ := h2.inv
    obtain rfl := h3.inv
    obtain ⟨t, rfl⟩ := h1.inv
    obtain ⟨u, rfl⟩ := g2.inv
    obtain ⟨X', l⟩ := X.pushI (o := { cls := .type "range", data := .fields #[.int a t, .int b u, .int 1 s.toks] }) rfl (s.toks + 1)
    exact call_range_2 (k _ _ _ _ X' l (.rng (.head _)))
  · obtain ⟨_, _, rfl, h1, h2⟩ := hv.inv
    obtain ⟨_, _, rfl, g2, h3⟩ := h2.inv
    obtain ⟨_, _, rfl, g3, h4⟩ := h3.inv
    obtain rfl := h4.inv
    obtain ⟨t, rfl⟩ := h1.inv
    obtain ⟨u, rfl⟩ := g2.inv
    obtain ⟨v, rfl⟩ := g3.inv
    obtain ⟨X', l⟩ := X.pushI (o := { cls := .type "range", data := .fields #[.int a t, .int b u, .int c v] }) rfl s.toks
    exact call_range_3 (hc.elim (fun e => e ▸ by decide) fun e => e ▸ by decide) (k _ _ _ _ X' l (.rng (.head _))) (.inl (PyProof.noPylong_small (hc.elim (fun e => e ▸ by decide) fun e => e ▸ by decide)))

theorem sim_list {x r : MV} {v : Value} {Q : Value → Shared → Prop} (hh : A.handled = none) (h : listM x st = some (r, st')) (h1 : V I μ v x) (X : At B env me lc st μ I s₀ μ₀ I₀ s)
    (k : ∀ v s' μ' I', At B env me lc st' μ' I' s₀ μ₀ I₀ s' → Le μ I μ' I' → V I' μ' v r → Q v s') : wpAny B.M A (call (.type "list") [v]) Q E s := by
  induction x using MV.casesOn with
  | bytes b =>
    obtain ⟨rfl, rfl⟩ := some2 h
    clear h
    obtain ⟨t, rfl, hz⟩ := h1.inv
    refine call_list_bytes hh b.toArray t (fun h' tk acc' c' hk hg hi => ?_) (by rw [List.size_toArray, sizeLine_eq]; exact Nat.le_trans hz (by decide))
    have hvs : ∀ {I μ}, VS I μ acc'.toList (b.map fun u => .int u.toNat) := VS_bytes (by have := hi.1; simpa using this) fun j v hj => hi.2 j v (by simpa using hj)
    obtain ⟨X', l, e⟩ := X.loc (mo := .list (b.map fun u => .int u.toNat)) hk (fresh_size _) ⟨acc'.toList, c', by simpa using hg, hvs, by rw [List.length_map]; exact hz⟩ tk
    exact k _ _ _ _ X' l (.loc e)
  | rng a b c =>
    obtain ⟨hc, g⟩ := ifS h
    obtain ⟨rfl, rfl⟩ := some2 g
    clear h g
    obtain ⟨hc, rfl⟩ := hc
    obtain ⟨r1, r2, r3⟩ := range_small hc (.inl rfl)
    obtain ⟨_, _, _, _, rfl, hm⟩ := h1.inv
    refine call_list_range hh (X.good.imm _ hm) r1 r2 (Nat.le_trans r3 (by decide)) fun h' tk acc' c' hk hg hi => ?_
    obtain ⟨X', l⟩ := X.imm hk (fresh_size _) hg tk
    refine k _ _ _ _ X' l (.lst (.head _) rfl (vs := acc'.toList) (n := c') (by simp) (VS_range (by have := hi.1; simpa using this) fun j v hj => hi.2 j v (by simpa using hj)) ?_)
    rw [List.length_map, rangeInts_length]; exact r3
  | _ => exact no_some h

theorem sim_sum {x r : MV} {v : Value} {Q : Value → Shared → Prop} (hh : A.handled = none) (h : ((asLstM x).bind fun xs => (allInt xs).map fun l => (MV.int l.sum, st)) = some (r, st')) (h1 : V I μ v x) (X : At B env me lc st μ I s₀ μ₀ I₀ s)
    (k : ∀ v s' μ' I', At B env me lc st' μ' I' s₀ μ₀ I₀ s' → Le μ I μ' I' → V I' μ' v r → Q v s') : wpAny B.M A (call (.builtin "sum") [v]) Q E s := by
  obtain ⟨b, e, h⟩ := bind_some h
  obtain ⟨l, hl, h⟩ := map_some h
  obtain ⟨rfl, rfl⟩ := some2 (congrArg some h)
  clear h
  obtain ⟨_, _, _, _, rfl, ma, ca, da, ra, za⟩ := (asLstM_eq e ▸ h1).inv
  have L := isList_of (X.good.imm _ ma) ca da
  have hi := ints_of ra hl
  obtain ⟨xs, hxs⟩ := hi.allInts.items
  rw [hxs] at L
  refine sum_intListG hh L fun h' tk t' hk => ?_
  have e : preSum (numAt xs) xs.size = l.sum := by
    rw [preSum_eq, List.take_of_length_le (by simp), ← nums_intItems, ← hxs, ← hi.numsOf]
  rw [e]
  exact k _ _ _ _ (X.grow hk tk) .refl (.int _ _)

theorem items_inv {x : MV} {v : Value} {xs : List MV} (h : itemsM x st = some xs) (h1 : V I μ v x) (G : GoodH B μ I st s.heap) : ∃ a us, v = .ref a ∧ s.heap.IsList a (List.toArray us) ∧ VS I μ us xs ∧ xs.length ≤ 2097152 := by
  induction x using MV.casesOn with
  | lst b =>
    obtain rfl := Option.some.inj h
    obtain ⟨a, _, us, _, rfl, ma, ca, da, ra, za⟩ := h1.inv
    exact ⟨a, us, rfl, isList_of (G.imm _ ma) ca da, ra, za⟩
  | loc b =>
    obtain ⟨a, rfl, hl'⟩ := h1.inv
    obtain ⟨us, L, ra, za⟩ := G.list hl' (listAt_eq h)
    exact ⟨a, us, rfl, L, ra, za⟩
  | _ => exact no_some h
theorem sim_bytes {x r : MV} {v : Value} {Q : Value → Shared → Prop} (hh : A.handled = none) (h : ((itemsM x st).bind fun xs => (bytesOf xs).map fun l => (MV.bytes l, st)) = some (r, st')) (h1 : V I μ v x) (X : At B env me lc st μ I s₀ μ₀ I₀ s)
    (k : ∀ v s' μ' I', At B env me lc st' μ' I' s₀ μ₀ I₀ s' → Le μ I μ' I' → V I' μ' v r → Q v s') : wpAny B.M A (call (.type "bytes") [v]) Q E s := by
  obtain ⟨b, e, h⟩ := bind_some h
  obtain ⟨l, hl, h⟩ := map_some h
  obtain ⟨rfl, rfl⟩ := some2 (congrArg some h)
  clear h
  obtain ⟨a, us, rfl, L, ra, za⟩ := items_inv e h1 X.good
  obtain ⟨ns, h1, h2, rfl⟩ := bytes_ints hl
  have hi := ints_of ra h1
  refine call_bytes_ints L hi h2 (by rw [ra.length, sizeLine_eq]; exact Nat.le_trans za (by decide)) hh fun h' t j hk => ?_
  refine k _ _ _ _ (X.grow hk j) .refl (.bytes _ t ?_)
  rw [List.length_map, ← hi.length, ra.length]; exact za

theorem sim_tuple {x r : MV} {v : Value} {Q : Value → Shared → Prop} (h : ((asLocM x).bind fun l => (listAt st l).map fun xs => (MV.tup xs, st)) = some (r, st')) (h1 : V I μ v x) (X : At B env me lc st μ I s₀ μ₀ I₀ s)
    (k : ∀ v s' μ' I', At B env me lc st' μ' I' s₀ μ₀ I₀ s' → Le μ I μ' I' → V I' μ' v r → Q v s') : wpAny B.M A (call (.type "tuple") [v]) Q E s := by
  obtain ⟨b, e, h⟩ := bind_some h
  obtain ⟨l, hl, h⟩ := map_some h
  obtain ⟨rfl, rfl⟩ := some2 (congrArg some h)
  clear h
  obtain ⟨_, rfl, hl'⟩ := (asLocM_eq e ▸ h1).inv
  obtain ⟨us, L, ra, za⟩ := X.good.list hl' (listAt_eq hl)
  refine call_tuple_list L (fun h' hk => ?_) (by rw [List.size_toArray, ra.length, sizeLine_eq]; exact Nat.le_trans za (by decide))
  obtain ⟨X', l⟩ := (X.grow hk s.toks).pushI (o := { cls := .type "tuple", data := .seq us.toArray }) rfl s.toks
  exact k _ _ _ _ X' l (.tup (.head _) rfl rfl (l.VS ra) za)

theorem sim_dict {x r : MV} {v : Value} {Q : Value → Shared → Prop} (hbig : sysModules < B.hb.objs.size) (h : ((asLocM x).bind fun l => (dictAt st l).map fun es => (MV.loc st.length, st ++ [.dict es])) = some (r, st')) (h1 : V I μ v x) (X : At B env me lc st μ I s₀ μ₀ I₀ s)
    (k : ∀ v s' μ' I', At B env me lc st' μ' I' s₀ μ₀ I₀ s' → Le μ I μ' I' → V I' μ' v r → Q v s') : wpAny B.M A (call (.type "dict") [v]) Q E s := by
  obtain ⟨b, e, h⟩ := bind_some h
  obtain ⟨es, hl, h⟩ := map_some h
  obtain ⟨rfl, rfl⟩ := some2 (congrArg some h)
  clear h
  obtain ⟨_, rfl, hl'⟩ := (asLocM_eq e ▸ h1).inv
  obtain ⟨⟨n1, n2⟩, kvs, D, ra⟩ := X.good.dict hl' (dictAt_eq hl)
  refine kt_call_dict (knd := strKind B.prog B.w) (by simpa using n1) D (by rw [ra.length, sizeLine_eq]; exact Nat.le_trans n2 (by decide)) fun h' hD hs => ?_
  have hk : ∀ b o, s.heap.get? b = some o → h'.get? b = some o := fun b o e => (hs.2 b (Nat.ne_of_lt (Heap.lt_size e))).trans (Heap.get?_push_of_some _ e)
  obtain ⟨X', l, e⟩ := X.loc (mo := .dict es) hk (fresh_size _) ⟨⟨big_new X hbig, n2⟩, kvs, hD, ra⟩ s.toks
  exact k _ _ _ _ X' l (.loc e)

theorem sim_int {x r : MV} {v : Value} {Q : Value → Shared → Prop} (h : (intM x).map (fun i => (MV.int i, st)) = some (r, st')) (h1 : V I μ v x) (X : At B env me lc st μ I s₀ μ₀ I₀ s)
    (k : ∀ v s' μ' I', At B env me lc st' μ' I' s₀ μ₀ I₀ s' → Le μ I μ' I' → V I' μ' v r → Q v s') : wpAny B.M A (call (.type "int") [v]) Q E s := by
  obtain ⟨n, hn, h⟩ := map_some h
  obtain ⟨rfl, rfl⟩ := some2 (congrArg some h)
  clear h
  induction x using MV.casesOn with
  | int i =>
    obtain rfl := Option.some.inj hn
    obtain ⟨_, rfl⟩ := h1.inv
    exact call_int_int (k _ _ _ _ X .refl (.int _ _))
  | bool b =>
    obtain rfl := Option.some.inj hn
    obtain rfl := h1.inv
    refine call_int_bool ?_
    have e : (if b = true then (1 : Int) else 0) = boolInt b := by cases b <;> rfl
    rw [e]
    exact k _ _ _ _ (X.tok _) .refl (.int _ _)
  | _ => exact no_some hn

theorem sim_abs {x r : MV} {v : Value} {Q : Value → Shared → Prop} (h : (asIntM x).map (fun i => (MV.int i.natAbs, st)) = some (r, st')) (h1 : V I μ v x) (X : At B env me lc st μ I s₀ μ₀ I₀ s)
    (k : ∀ v s' μ' I', At B env me lc st' μ' I' s₀ μ₀ I₀ s' → Le μ I μ' I' → V I' μ' v r → Q v s') : wpAny B.M A (call (.builtin "abs") [v]) Q E s := by
  obtain ⟨n, hn, h⟩ := map_some h
  obtain ⟨rfl, rfl⟩ := some2 (congrArg some h)
  clear h
  obtain ⟨_, rfl⟩ := (asIntM_eq hn ▸ h1).inv
  refine call_abs_int fun u tk => ?_
  rw [natAbs_if]
  exact k _ _ _ _ (X.tok _) .refl (.int _ _)

theorem sim_callB {b : BI} {args : List MV} {r : MV} {vs : List Value} {Q : Value → Shared → Prop} (hbig : sysModules < B.hb.objs.size) (hh : A.handled = none) (h : callB b args st = some (r, st')) (hv : VS I μ vs args) (X : At B env me lc st μ I s₀ μ₀ I₀ s)
    (k : ∀ v s' μ' I', At B env me lc st' μ' I' s₀ μ₀ I₀ s' → Le μ I μ' I' → V I' μ' v r → Q v s') : wpAny B.M A (call b.val vs) Q E s := by
  induction b using BI.casesOn with
  | enumerate => exact no_some h
  | range => exact sim_range h hv X k
  | len =>
    obtain ⟨x, e, h⟩ := bind_some h
    obtain ⟨v, rfl, h1⟩ := one_inv e hv
    exact sim_len h h1 X k
  | list =>
    obtain ⟨x, e, h⟩ := bind_some h
    obtain ⟨v, rfl, h1⟩ := one_inv e hv
    exact sim_list hh h h1 X k
  | sum =>
    obtain ⟨x, e, h⟩ := bind_some h
    obtain ⟨v, rfl, h1⟩ := one_inv e hv
    exact sim_sum hh h h1 X k
  | bytes =>
    obtain ⟨x, e, h⟩ := bind_some h
    obtain ⟨v, rfl, h1⟩ := one_inv e hv
    exact sim_bytes hh h h1 X k
  | tuple =>
    obtain ⟨x, e, h⟩ := bind_some h
    obtain ⟨v, rfl, h1⟩ := one_inv e hv
    exact sim_tuple h h1 X k
  | dict =>
    obtain ⟨x, e, h⟩ := bind_some h
    obtain ⟨v, rfl, h1⟩ := one_inv e hv
    exact sim_dict hbig h h1 X k
  | int =>
    obtain ⟨x, e, h⟩ := bind_some h
    obtain ⟨v, rfl, h1⟩ := one_inv e hv
    exact sim_int h h1 X k
  | abs =>
    obtain ⟨x, e, h⟩ := bind_some h
    obtain ⟨v, rfl, h1⟩ := one_inv e hv
    exact sim_abs h h1 X k
end
end Mine
end
section
open PySem PySem.W PySem.Calls PyProof.Rows PySem.Spec
namespace Mine

/-- an object that is nobody's but the walk's own: an iterator, a dict under way -/
structure Own (B : Base) (env : Env) (me : ME) (μ : List Addr) (I : Led) (h : Heap) (d : Addr) : Prop where
  m : d ∉ μ
  i : ∀ p ∈ I, p.1 ≠ d
  t : d ≠ B.tab
  o : d ∉ ownOf env me
  b : B.hb.get? d = none
  cell : ∀ u, ¬ h.IsCell d u

section
variable {B : Base} {env : Env} {me : ME} {lc lc' : Lc} {st st' : St} {μ μ' μ₀ : List Addr} {I I' I₀ : Led} {s s' s₀ : Shared} {A : Around} {E : Value → Shared → Prop} {n : Nat}

theorem Ext.old {own : List Addr} {h h' : Heap} (x : Ext B own μ I h μ' I' h') {b : Addr} (e : h'.get? b = none) : h.get? b = none := by
  cases q : h.get? b with
  | none => rfl
  | some o => obtain ⟨o', e'⟩ := x.live b o q; rw [e] at e'; cases e'

theorem Own.fresh (X : At B env me lc st μ I s₀ μ₀ I₀ s) {d : Addr} (hn : s.heap.get? d = none) {o : Obj} {h' : Heap} (ho : h'.get? d = some o) (hc : ∀ u, o.data ≠ .cell u) : Own B env me μ I h' d := by
  have dead : ∀ {b o}, s.heap.get? b = some o → b ≠ d := fun e q => by rw [q, hn] at e; cases e
  refine ⟨fun q => ?_, fun p hp => dead (X.good.imm p hp), fun q => ?_, fun q => ?_, ?_, fun u hu => ?_⟩
  · obtain ⟨o, e⟩ := X.good.liveμ q; exact dead e rfl
  · obtain ⟨o, e⟩ := X.good.liveT; exact dead e q.symm
  · obtain ⟨o, e⟩ := X.fr.live d q; exact dead e rfl
  · cases q : B.hb.get? d with
    | none => rfl
    | some o' => exact absurd rfl (dead (X.good.base d o' q))
  · obtain ⟨o', e, hd⟩ := hu
    rw [ho] at e; cases e
    exact hc u hd

theorem Own.ext {h h' : Heap} {d : Addr} {o : Obj} (W : Own B env me μ I h d) (ho : h.get? d = some o) (x : Ext B (ownOf env me) μ I h μ' I' h') : Own B env me μ' I' h' d ∧ h'.get? d = some o := by
  have ho' := x.keep d o ho W.m W.t W.o
  refine ⟨⟨fun q => ?_, fun p hp e => ?_, W.t, W.o, W.b, fun u hu => ?_⟩, ho'⟩
  · rcases x.newμ d q with z | z
    · exact W.m z
    · rw [ho] at z; cases z
  · rcases x.newI p hp with z | z
    · exact W.i p z e
    · rw [e, ho] at z; cases z
  · obtain ⟨o', e, hd⟩ := hu
    rw [ho'] at e; cases e
    exact W.cell u ⟨_, ho, hd⟩

/-- an own object changed in class only -/
theorem Own.but {h h' : Heap} {d : Addr} {o : Obj} (W : Own B env me μ I h d) (ho : h'.get? d = some o) (hc : ∀ u, o.data ≠ .cell u) : Own B env me μ I h' d :=
  ⟨W.m, W.i, W.t, W.o, W.b, fun u hu => by
    obtain ⟨o', e, hd⟩ := hu
    rw [ho] at e; cases e
    exact hc u hd⟩

theorem FrOk.move {h h' : Heap} {d : Addr} (F : FrOk B env me lc μ I h) (G : GoodH B μ I st h) (W : Own B env me μ I h d) (le : Le μ I μ' I') (hk : ∀ b o, b ≠ d → h.get? b = some o → b ∉ μ → b ≠ B.tab → h'.get? b = some o)
    (hM : ∀ a ∈ ownOf env me, a ∉ μ') (hI : ∀ a ∈ ownOf env me, ∀ p ∈ I', p.1 ≠ a) : FrOk B env me lc μ' I' h' := by
  have kp : ∀ b, b ∈ ownOf env me → ∀ o, h.get? b = some o → h'.get? b = some o := fun b hb o e => hk b o (fun q => W.o (q ▸ hb)) e (F.offM b hb) (fun q => F.offT (q ▸ hb))
  have kc : ∀ {c u}, h.IsCell c u → h'.IsCell c u := fun {c u} hc => by
    obtain ⟨a, b⟩ := G.off_cell hc
    have hne : c ≠ d := fun q => W.cell u (q ▸ hc)
    obtain ⟨o, ho, hd⟩ := hc
    exact ⟨o, hk c o hne ho a b, hd⟩
  refine ⟨F.sc, F.kf, F.nd, F.nc, F.gl, F.bu, F.ab, ?_, F.lk, fun y hy => ?_, F.apart, fun y mv hy => ?_, F.nl, hM, hI, F.offT, F.offB, fun a ha => ?_, fun hl => ?_⟩
  · obtain ⟨m, hn, hv⟩ := F.ns
    exact ⟨m, hn.at' (kp _ own_locals), fun y mv hk hl => let ⟨v, h1, h2⟩ := hv y mv hk hl; ⟨v, h1, le.V h2⟩⟩
  · obtain ⟨hk, c, u, h1, h2, h3⟩ := F.cel y hy
    exact ⟨hk, c, u, h1, kc h2, fun mv hm => let ⟨v, e, hv⟩ := h3 mv hm; ⟨v, e, le.V hv⟩⟩
  · obtain ⟨h0, c, v, h1, h2, h3, h4⟩ := F.fre y mv hy
    exact ⟨h0, c, v, h1, kc h2, le.V h3, h4⟩
  · obtain ⟨o, ho⟩ := F.live a ha
    exact ⟨o, kp a ha o ho⟩
  · obtain ⟨h1, h2, h3⟩ := F.lam hl
    exact ⟨h1, h2, fun y mv hy => let ⟨c, o, v, a, b, d, e⟩ := h3 y mv hy; ⟨c, o, v, a, le.sub _ b, d, le.V e⟩⟩

/-- an own object changes -/
theorem At.scratch {h' : Heap} {d : Addr} (X : At B env me lc st μ I s₀ μ₀ I₀ s) (W : Own B env me μ I s.heap d) (h0 : s₀.heap.get? d = none) (hk : ∀ b o, b ≠ d → s.heap.get? b = some o → h'.get? b = some o) (tk : Nat) :
    At B env me lc st μ I s₀ μ₀ I₀ { s with heap := h', toks := tk } := by
  have G := X.good
  have F := X.fr
  refine ⟨by rw [X.same], ⟨X.ext.pre, X.ext.sub, fun b o e hm ht ho => hk b o (fun q => ?_) (X.ext.keep b o e hm ht ho), fun b o e => ?_, X.ext.newμ, X.ext.newI⟩,
    ⟨fun b o e => hk b o (fun q => ?_) (G.base b o e), fun p hp => hk _ _ (W.i p hp) (G.imm p hp), G.len, fun l a mo h1 h2 => (G.rep l a mo h1 h2).mono (fun _ e => e) (fun _ _ e => e) (fun o e => hk _ o (fun q => W.m (q ▸ List.mem_of_getElem? h1)) e), G.nodup, G.offB, G.offI, G.offT, G.tabI, G.tab.keeps (fun o e => hk _ o (fun q => W.t q.symm) e) fun _ e => e⟩,
    F.move G W .refl (fun b o hd e _ _ => hk b o hd e) F.offM F.offI⟩
  · rw [q, h0] at e; cases e
  · obtain ⟨o', e'⟩ := X.ext.live b o e
    exact ⟨o', hk b o' (fun q => by rw [q, h0] at e; cases e) e'⟩
  · rw [q, W.b] at e; cases e

/-- own objects change -/
theorem At.change {h' : Heap} {ds : List Addr} (X : At B env me lc st μ I s₀ μ₀ I₀ s) (W : ∀ d ∈ ds, Own B env me μ I s.heap d) (h0 : ∀ d ∈ ds, s₀.heap.get? d = none) (hk : ∀ b o, b ∉ ds → s.heap.get? b = some o → h'.get? b = some o) (tk : Nat) :
    At B env me lc st μ I s₀ μ₀ I₀ { s with heap := h', toks := tk } := by
  have G := X.good
  have F := X.fr
  have kp : ∀ b, b ∈ ownOf env me → ∀ o, s.heap.get? b = some o → h'.get? b = some o := fun b hb o e => hk b o (fun q => (W b q).o hb) e
  have kc : ∀ {c u}, s.heap.IsCell c u → h'.IsCell c u := fun {c u} hc => by
    obtain ⟨o, ho, hd⟩ := id hc
    exact ⟨o, hk c o (fun q => (W c q).cell u hc) ho, hd⟩
  refine ⟨by rw [X.same], ⟨X.ext.pre, X.ext.sub, fun b o e hm ht ho => hk b o (fun q => ?_) (X.ext.keep b o e hm ht ho), fun b o e => ?_, X.ext.newμ, X.ext.newI⟩,
    ⟨fun b o e => hk b o (fun q => ?_) (G.base b o e), fun p hp => hk _ _ (fun q => (W _ q).i p hp rfl) (G.imm p hp), G.len, fun l a mo h1 h2 => (G.rep l a mo h1 h2).mono (fun _ e => e) (fun _ _ e => e) (fun o e => hk _ o (fun q => (W _ q).m (List.mem_of_getElem? h1)) e), G.nodup, G.offB, G.offI, G.offT, G.tabI, G.tab.keeps (fun o e => hk _ o (fun q => (W _ q).t rfl) e) fun _ e => e⟩,
    ⟨F.sc, F.kf, F.nd, F.nc, F.gl, F.bu, F.ab, ?_, F.lk, fun y hy => ?_, F.apart, fun y mv hy => ?_, F.nl, F.offM, F.offI, F.offT, F.offB, fun a ha => ?_, F.lam⟩⟩
  · rw [h0 b q] at e; cases e
  · obtain ⟨o', e'⟩ := X.ext.live b o e
    exact ⟨o', hk b o' (fun q => by rw [h0 b q] at e; cases e) e'⟩
  · rw [(W b q).b] at e; cases e
  · obtain ⟨m, hn, hv⟩ := F.ns
    exact ⟨m, hn.at' (kp _ own_locals), hv⟩
  · obtain ⟨hk, c, u, h1, h2, h3⟩ := F.cel y hy
    exact ⟨hk, c, u, h1, kc h2, h3⟩
  · obtain ⟨h0, c, v, h1, h2, h3, h4⟩ := F.fre y mv hy
    exact ⟨h0, c, v, h1, kc h2, h3, h4⟩
  · obtain ⟨o, ho⟩ := F.live a ha
    exact ⟨o, kp a ha o ho⟩

/-- an own object becomes a place of the store -/
theorem At.adopt {h' : Heap} {d : Addr} {mo : MO} (X : At B env me lc st μ I s₀ μ₀ I₀ s) (W : Own B env me μ I s.heap d) (h0 : s₀.heap.get? d = none) (hk : ∀ b o, b ≠ d → s.heap.get? b = some o → h'.get? b = some o) (ho : OH B I μ h' d mo) (tk : Nat) :
    At B env me lc (st ++ [mo]) (μ ++ [d]) I s₀ μ₀ I₀ { s with heap := h', toks := tk } ∧ Le μ I (μ ++ [d]) I ∧ (μ ++ [d])[st.length]? = some d := by
  have G := X.good
  have F := X.fr
  have get : ∀ (l : Nat) (b : Addr), μ[l]? = some b → (μ ++ [d])[l]? = some b := fun l b e => by
    rw [List.getElem?_append_left (List.getElem?_eq_some_iff.mp e).1]; exact e
  have e1 : (μ ++ [d])[st.length]? = some d := by rw [← G.len]; simp
  refine ⟨⟨by rw [X.same], ⟨?_, X.ext.sub, fun b o e hm ht ho => hk b o (fun q => ?_) (X.ext.keep b o e hm ht ho), fun b o e => ?_, fun b hb => ?_, X.ext.newI⟩,
    ⟨fun b o e => hk b o (fun q => ?_) (G.base b o e), fun p hp => hk _ _ (W.i p hp) (G.imm p hp), by simp [G.len], fun l b mo' h1 h2 => ?_, ?_, fun b hb => ?_, fun b hb p hp => ?_, fun hb => ?_, G.tabI, G.tab.keeps (fun o e => hk _ o (fun q => W.t q.symm) e) fun _ e => e⟩,
    F.move G W ⟨fun _ e => e, get⟩ (fun b o hd e _ _ => hk b o hd e) (fun a ha hm => ?_) F.offI⟩, ⟨fun _ e => e, get⟩, e1⟩
  · obtain ⟨t, e⟩ := X.ext.pre
    exact ⟨t ++ [d], by rw [e, List.append_assoc]⟩
  · rw [q, h0] at e; cases e
  · obtain ⟨o', e'⟩ := X.ext.live b o e
    exact ⟨o', hk b o' (fun q => by rw [q, h0] at e; cases e) e'⟩
  · rcases List.mem_append.mp hb with q | q
    · exact X.ext.newμ b q
    · rw [List.mem_singleton.mp q]; exact .inr h0
  · rw [q, W.b] at e; cases e
  · by_cases hl : l < st.length
    · rw [List.getElem?_append_left (G.len ▸ hl)] at h1
      rw [List.getElem?_append_left hl] at h2
      exact (G.rep l b mo' h1 h2).mono (fun _ e => e) get (fun o e => hk _ o (fun q => W.m (q ▸ List.mem_of_getElem? h1)) e)
    · have hl2 : l = st.length := by
        have := (List.getElem?_eq_some_iff.mp h2).1
        simp only [List.length_append, List.length_cons, List.length_nil] at this
        omega
      subst hl2
      have e2 : (st ++ [mo])[st.length]? = some mo := by simp
      rw [e1] at h1; cases h1
      rw [e2] at h2; cases h2
      exact ho.mono (fun _ e => e) get (fun _ e => e)
  · rw [List.nodup_append]
    refine ⟨G.nodup, by simp, fun b hb c hc => ?_⟩
    rw [List.mem_singleton.mp hc]
    exact fun e => W.m (e ▸ hb)
  · rcases List.mem_append.mp hb with q | q
    · exact G.offB b q
    · rw [List.mem_singleton.mp q]; exact W.b
  · rcases List.mem_append.mp hb with q | q
    · exact G.offI b q p hp
    · rw [List.mem_singleton.mp q]; exact W.i p hp
  · rcases List.mem_append.mp hb with q | q
    · exact G.offT q
    · exact W.t (List.mem_singleton.mp q).symm
  · rcases List.mem_append.mp hm with q | q
    · exact F.offM a ha q
    · exact W.o (List.mem_singleton.mp q ▸ ha)

/-- an own object is left alone from now on -/
theorem At.adoptI {d : Addr} {o : Obj} (X : At B env me lc st μ I s₀ μ₀ I₀ s) (W : Own B env me μ I s.heap d) (h0 : s₀.heap.get? d = none) (ho : s.heap.get? d = some o) :
    At B env me lc st μ ((d, o) :: I) s₀ μ₀ I₀ s ∧ Le μ I μ ((d, o) :: I) := by
  have G := X.good
  have sub : ∀ p ∈ I, p ∈ (d, o) :: I := fun p hp => .tail _ hp
  refine ⟨⟨X.same, ⟨X.ext.pre, fun p hp => sub p (X.ext.sub p hp), X.ext.keep, X.ext.live, X.ext.newμ, fun p hp => ?_⟩,
    ⟨G.base, fun p hp => ?_, G.len, fun l a mo h1 h2 => (G.rep l a mo h1 h2).mono sub (fun _ _ e => e) (fun _ e => e), G.nodup, G.offB, fun a ha p hp => ?_, G.offT, fun p hp => ?_, G.tab.keeps (fun _ e => e) sub⟩,
    X.fr.move G W ⟨sub, fun _ _ e => e⟩ (fun b o' _ e _ _ => e) X.fr.offM (fun a ha p hp => ?_)⟩, sub, fun _ _ e => e⟩
  · rcases List.mem_cons.mp hp with rfl | hp
    · exact .inr h0
    · exact X.ext.newI p hp
  · rcases List.mem_cons.mp hp with rfl | hp
    · exact ho
    · exact G.imm p hp
  · rcases List.mem_cons.mp hp with rfl | hp
    · exact fun e => W.m (by rw [show d = a from e]; exact ha)
    · exact G.offI a ha p hp
  · rcases List.mem_cons.mp hp with rfl | hp
    · exact W.t
    · exact G.tabI p hp
  · rcases List.mem_cons.mp hp with rfl | hp
    · exact fun e => W.o (by rw [show d = a from e]; exact ha)
    · exact X.fr.offI a ha p hp

/-- a callee's block has run: its own cells and locals were new -/
theorem At.inner {own : List Addr} {h' : Heap} (X : At B env me lc st μ I s₀ μ₀ I₀ s) (x : Ext B own μ I s.heap μ' I' h') (hn : ∀ a ∈ own, s.heap.get? a = none) (G : GoodH B μ' I' st' h') (tk : Nat) :
    At B env me lc st' μ' I' s₀ μ₀ I₀ { s with heap := h', toks := tk } := by
  have x' : Ext B [] μ I s.heap μ' I' h' := x.weak fun a ha => .inr (hn a ha)
  exact X.step (x'.weak fun _ q => nomatch q) G (X.fr.ext X.good x')
end
end Mine
end
section
open PySem PySem.W PySem.Calls PyProof.Rows PySem.Spec
namespace Mine

structure TopOk (B : Base) (K : Frag) : Prop extends ClsOk B K where
  ng : B.hb.Ns mainGlobals B.mg
  nb : B.hb.Ns builtinsNs B.mb
  glob : ∀ x m, B.P.glob x = some m → ∃ v, (B.mg x = some v ∨ (B.mg x = none ∧ B.mb x = some v)) ∧ V [] [] v m
  big : sysModules < B.hb.objs.size

section
variable {B : Base} {R : Rec} {n : Nat} {K : Frag} {env : Env} {me : ME} {lc lc' : Lc} {st st' : St} {μ μ' μ₀ : List Addr} {I I' I₀ : Led} {s s' s₀ : Shared} {A : Around} {E : Value → Shared → Prop}

theorem marked_plain : ∀ {ops : List CmpOp} {cs : List Expr}, cs.any isSet = false → ∀ ts, markedEach ops cs ts = ts
  | [], cs, _, ts => by cases cs <;> simp [markedEach]
  | [op], [e], h, [t] => by
    have : behindInMarks op e = false := by
      cases e <;> first | rfl | exact Bool.noConfusion (show true = false from h)
    show [markedBehindIn op e t] = [t]
    unfold markedBehindIn
    rw [this]
  | [op], [e], h, [] => by simp [markedEach]
  | [op], [e], h, t :: u :: ts => by simp [markedEach]
  | [op], [], h, ts => by simp [markedEach]
  | [op], e :: f :: cs, h, [] => by simp [markedEach]
  | [op], e :: f :: cs, h, t :: ts => by simp [markedEach]
  | op :: op' :: ops, [], h, ts => by simp [markedEach]
  | op :: op' :: ops, e :: cs, h, [] => by simp [markedEach]
  | op :: op' :: ops, e :: cs, h, t :: ts => by
    have h2 : cs.any isSet = false := by
      rw [List.any_cons, Bool.or_eq_false_iff] at h
      exact h.2
    have := marked_plain (ops := op' :: ops) h2 ts
    simp only [markedEach, this]

theorem chain_more {pos : Pos} {va : Value} {op : CmpOp} {ops : List CmpOp} {e : Expr} {cs : List Expr} (hl : ¬ (ops.isEmpty && cs.isEmpty) = true) :
    compareChain pos va (op :: ops) (evalEach (e :: cs) env) = (holding [va] (eval e env) >>= fun rv => standAt pos >>= fun _ => holding [va, rv] (compareOp op va rv) >>= fun c => release [va, rv] [c] >>= fun _ => holding [c, rv] (truthy c) >>= fun t => if t = true then compareChain pos rv ops (evalEach cs env) else pure c) ∧
    testChain pos va (op :: ops) (evalEach (e :: cs) env) = (holding [va] (eval e env) >>= fun rv => standAt pos >>= fun _ => holding [va, rv] (compareOp op va rv) >>= fun c => release [va, rv] [c] >>= fun _ => holding [c, rv] (truthy c) >>= fun t => if t = true then testChain pos rv ops (evalEach cs env) else pure false) := by
  induction ops using List.casesOn with
  | nil => induction cs using List.casesOn with
    | nil => exact absurd rfl hl
    | cons => exact ⟨rfl, rfl⟩
  | cons => exact ⟨rfl, rfl⟩
theorem sim_chain (ev : EvS B R n) {pos : Pos} (hR : Room A n) {Q : Bool → Shared → Prop} {b : Bool} {st' : St} : ∀ {ops : List CmpOp} {cs : List Expr} {a : MV} {va : Value} {st : St} {s : Shared} {μ : List Addr} {I : Led},
    chain R a ops cs me lc st = some (b, st') → V I μ va a → At B env me lc st μ I s₀ μ₀ I₀ s → (∀ s' μ' I', At B env me lc st' μ' I' s₀ μ₀ I₀ s' → Le μ I μ' I' → Q b s') →
    wpAny B.M A (compareChain pos va ops (evalEach cs env)) (fun v s' => v = .bool b ∧ Q b s') E s ∧ wpAny B.M A (testChain pos va ops (evalEach cs env)) Q E s := by
  intro ops
  induction ops with
  | nil => exact fun h _ _ _ => no_some h
  | cons op ops ih =>
    intro cs a va st s μ I h ha X k
    induction cs using List.casesOn with
    | nil => exact no_some h
    | cons e cs =>
      refine bindE h fun v st1 h1 h => ?_
      obtain ⟨r, h2, h⟩ := bind_some h
      by_cases hl : (ops.isEmpty && cs.isEmpty) = true
      · obtain ⟨rfl, rfl⟩ := some2 ((if_pos hl).symm.trans h)
        cases isEmpty_eq (Bool.and_eq_true_iff.mp hl).1
        cases isEmpty_eq (Bool.and_eq_true_iff.mp hl).2
        refine ⟨wpAny_bind (wpAny_holding (ev h1 hR X fun v1 s1 μ1 I1 X1 l1 hv1 => wpAny_bind (wpAny_standAt (wpAny_operating ?_)))), wpAny_bind (wpAny_holding (ev h1 hR X fun v1 s1 μ1 I1 X1 l1 hv1 => wpAny_bind (wpAny_standAt (wpAny_bind (wpAny_operating ?_)))))⟩
        · exact sim_cmp h2 (l1.V ha) hv1 X1.good hR.units ⟨rfl, k s1 μ1 I1 X1 l1⟩
        · exact sim_cmp h2 (l1.V ha) hv1 X1.good hR.units (wpAny_holding (wpAny_truthy_bool (k s1 μ1 I1 X1 l1)))
      · have g := (if_neg hl).symm.trans h
        clear h
        rw [(chain_more hl).1, (chain_more hl).2]
        refine ⟨wpAny_bind (wpAny_holding (ev h1 hR X fun v1 s1 μ1 I1 X1 l1 hv1 => wpAny_bind (wpAny_standAt (wpAny_bind (wpAny_holding ?_))))), wpAny_bind (wpAny_holding (ev h1 hR X fun v1 s1 μ1 I1 X1 l1 hv1 => wpAny_bind (wpAny_standAt (wpAny_bind (wpAny_holding ?_)))))⟩
        · refine sim_cmp h2 (l1.V ha) hv1 X1.good hR.units (wpAny_bind (wpAny_release (wpAny_bind (wpAny_holding (wpAny_truthy_bool ?_)))))
          induction r using Bool.casesOn with
          | true => exact (ih g hv1 X1 fun s' μ' I' X' l' => k s' μ' I' X' (l1.trans l')).1
          | false =>
            obtain ⟨rfl, rfl⟩ := some2 g
            exact wpAny_pure ⟨rfl, k s1 μ1 I1 X1 l1⟩
        · refine sim_cmp h2 (l1.V ha) hv1 X1.good hR.units (wpAny_bind (wpAny_release (wpAny_bind (wpAny_holding (wpAny_truthy_bool ?_)))))
          induction r using Bool.casesOn with
          | true => exact (ih g hv1 X1 fun s' μ' I' X' l' => k s' μ' I' X' (l1.trans l')).2
          | false =>
            obtain ⟨rfl, rfl⟩ := some2 g
            exact wpAny_pure (k s1 μ1 I1 X1 l1)

theorem sim_boolV (ev : EvS B R n) {pos : Pos} (hR : Room A n) {op : BoolOp} {Q : Value → Shared → Prop} {b : Bool} {st' : St} : ∀ {es : List Expr} {st : St} {s : Shared} {μ : List Addr} {I : Led},
    boolV R op es me lc st = some (b, st') → At B env me lc st μ I s₀ μ₀ I₀ s → (∀ s' μ' I', At B env me lc st' μ' I' s₀ μ₀ I₀ s' → Le μ I μ' I' → Q (.bool b) s') →
    wpAny B.M A (boolOp pos op (evalEach es env)) Q E s := by
  intro es
  induction es with
  | nil => exact fun h _ _ => no_some h
  | cons e es ih =>
    intro st s μ I h X k
    refine bindE h fun v st1 h1 h => ?_
    obtain ⟨c, e1, g⟩ := bind_some h
    clear h
    induction es using List.casesOn with
    | nil =>
      obtain ⟨rfl, rfl⟩ := some2 g
      refine ev h1 hR X fun v1 s1 μ1 I1 X1 l1 hv1 => ?_
      obtain rfl := (asBoolM_eq e1 ▸ hv1).inv
      exact k s1 μ1 I1 X1 l1
    | cons f es =>
      refine wpAny_bind (ev h1 hR X fun v1 s1 μ1 I1 X1 l1 hv1 => wpAny_bind (wpAny_standAt (wpAny_bind (wpAny_holding ?_))))
      obtain rfl := (asBoolM_eq e1 ▸ hv1).inv
      refine wpAny_truthy_bool ?_
      have rest := fun (h : boolV R op (f :: es) me lc st1 = some (b, st')) => ih h X1 fun s' μ' I' X' l' => k s' μ' I' X' (l1.trans l')
      clear ih
      induction op using PySem.BoolOp.casesOn with
      | And => induction c using Bool.casesOn with
        | true => exact rest g
        | false =>
          obtain ⟨rfl, rfl⟩ := some2 g
          exact wpAny_pure (k s1 μ1 I1 X1 l1)
      | Or => induction c using Bool.casesOn with
        | false => exact rest g
        | true =>
          obtain ⟨rfl, rfl⟩ := some2 g
          exact wpAny_pure (k s1 μ1 I1 X1 l1)

theorem sim_boolM (tr : TrS B R n) (hR : Room A n) {op : BoolOp} {Q : Bool → Shared → Prop} {b : Bool} {st' : St} : ∀ {es : List Expr} {st : St} {s : Shared} {μ : List Addr} {I : Led},
    boolM R op es me lc st = some (b, st') → At B env me lc st μ I s₀ μ₀ I₀ s → (∀ s' μ' I', At B env me lc st' μ' I' s₀ μ₀ I₀ s' → Le μ I μ' I' → Q b s') →
    wpAny B.M A (allTrue op es env) Q E s := by
  intro es
  induction es with
  | nil =>
    intro st s μ I h X k
    induction op using PySem.BoolOp.casesOn with
    | And =>
      obtain ⟨rfl, rfl⟩ := some2 h
      exact wpAny_allTrue_And_nil (k s μ I X .refl)
    | Or =>
      obtain ⟨rfl, rfl⟩ := some2 h
      exact wpAny_allTrue_Or_nil (k s μ I X .refl)
  | cons e es ih =>
    intro st s μ I h X k
    induction op using PySem.BoolOp.casesOn with
    | And =>
      refine bindE h fun c st1 h1 g => ?_
      refine wpAny_allTrue_And_cons (tr h1 hR X fun s1 μ1 I1 X1 l1 => ?_)
      induction c using Bool.casesOn with
      | true => exact ih g X1 fun s' μ' I' X' l' => k s' μ' I' X' (l1.trans l')
      | false =>
        obtain ⟨rfl, rfl⟩ := some2 g
        exact k s1 μ1 I1 X1 l1
    | Or =>
      refine bindE h fun c st1 h1 g => ?_
      refine wpAny_allTrue_Or_cons (tr h1 hR X fun s1 μ1 I1 X1 l1 => ?_)
      induction c using Bool.casesOn with
      | false => exact ih g X1 fun s' μ' I' X' l' => k s' μ' I' X' (l1.trans l')
      | true =>
        obtain ⟨rfl, rfl⟩ := some2 g
        exact k s1 μ1 I1 X1 l1

theorem Room.pred {A : Around} {n : Nat} (h : Room A (n + 1)) : Room A n := h.le (Nat.le_succ n)

theorem tr_val (ev : EvS B R n) (hR : Room A n) {e : Expr} {b : Bool} {Q : Bool → Shared → Prop} (h : ((R.ev e me lc st).bind fun (v, st) => (asBoolM v).bind fun b => some (b, st)) = some (b, st')) (X : At B env me lc st μ I s₀ μ₀ I₀ s)
    (k : ∀ s' μ' I', At B env me lc st' μ' I' s₀ μ₀ I₀ s' → Le μ I μ' I' → Q b s') (g : ∀ whole : Sem Value, isTrue e env whole = (do let v ← whole; standAt e.pos; holding [v] (truthy v))) : wpAny B.M A (isTrue e env (eval e env)) Q E s := by
  refine bindE h fun v st1 h5 h => ?_
  obtain ⟨c, e1, q⟩ := bind_some h
  obtain ⟨rfl, rfl⟩ := some2 q
  refine wpAny_isTrue_value (ev h5 hR X fun v1 s1 μ1 I1 X1 l1 hv1 => ?_) (g _)
  obtain rfl := (asBoolM_eq e1 ▸ hv1).inv
  exact wpAny_truthy_bool (k s1 μ1 I1 X1 l1)
theorem step_tr {P : MP} (ev : EvS B R n) (tr : TrS B R n) : TrS B (stepR P R) (n + 1) := by
  intro e me lc st b st' h env A s s₀ μ₀ μ I₀ I Q E hR X k
  have hR := hR.pred
  change trF R e me lc st = some (b, st') at h
  induction e using PySem.Expr.casesOn with
  | UnaryOp op x p => induction op using PySem.UnaryOp.casesOn with
    | Not =>
      obtain ⟨⟨c, st1⟩, h1, h⟩ := map_some h
      obtain ⟨rfl, rfl⟩ := some2 (congrArg some h)
      exact wpAny_isTrue_Not (tr h1 hR X k)
    | _ => exact tr_val ev hR h X k fun _ => rfl
  | BoolOp op vs p => exact wpAny_isTrue_BoolOp (sim_boolM tr hR h X k)
  | Compare l ops cs p =>
    obtain ⟨hs, h⟩ := ifN h
    refine bindE h fun v st1 h1 h => ?_
    rw [arm_isTrue_Compare]
    refine wpAny_bind (ev h1 hR X fun v1 s1 μ1 I1 X1 l1 hv1 => ?_)
    rw [marked_plain (Bool.eq_false_iff.mpr hs)]
    exact (sim_chain ev hR h hv1 X1 fun s' μ' I' X' l' => k s' μ' I' X' (l1.trans l')).2
  | IfExp => exact no_some h
  | _ => exact tr_val ev hR h X k fun _ => rfl

theorem not_isSome {α : Type} {o : Option α} (h : ¬ o.isSome = true) : o = none := by induction o using Option.casesOn with | none => rfl | some _ => exact absurd rfl h
theorem key_inv {k : Option Expr} {x : Str} (h : k.bind keyX = some x) : ∃ i p, k = some (.Constant (.str x) i p) := by
  obtain ⟨e, rfl, h⟩ := bind_some h
  obtain ⟨i, p, rfl⟩ := keyX_eq h
  exact ⟨i, p, rfl⟩

theorem sim_pairs (ev : EvS B R n) {pos : Pos} (hR : Room A n) {st' : St} : ∀ {ks : List (Option Expr)} {vs : List Expr} {st : St} {es : List (Str × MV)} {s : Shared} {μ : List Addr} {I : Led} {Q : List (Value × Value) → Shared → Prop},
    dictOf? R ks vs me lc st = some (es, st') → At B env me lc st μ I s₀ μ₀ I₀ s → (∀ ps kvs s' μ' I', At B env me lc st' μ' I' s₀ μ₀ I₀ s' → Le μ I μ' I' → Carries (strKind B.prog B.w) ps kvs → VD I' μ' kvs es → (kvs.map (·.1)).Nodup → (∀ x ∈ kvs.map (·.1), (es.lookup x).isSome = true) → Q ps s') →
    wpAny B.M A (evalPairs (pairTrees ks vs env pos)) Q E s := by
  intro ks
  induction ks with
  | nil =>
    intro vs st es s μ I Q h X k
    induction vs using List.casesOn with
    | nil =>
      obtain ⟨rfl, rfl⟩ := some2 h
      exact wpAny_pure (k [] [] s μ I X .refl trivial .nil List.nodup_nil (fun _ h => nomatch h))
    | cons => exact no_some h
  | cons q ks ih =>
    intro vs st es s μ I Q h X k
    induction vs using List.casesOn with
    | nil => exact no_some h
    | cons v vs =>
      obtain ⟨key, hk, h⟩ := bind_some h
      refine bindE h fun mv st1 h1 h => ?_
      refine bindE h fun r st2 h2 h => ?_
      obtain ⟨hn, g⟩ := ifN h
      clear h
      obtain ⟨rfl, rfl⟩ := some2 g
      obtain ⟨kd, p, rfl⟩ := key_inv hk
      show wpAny _ _ (evalPairs ((eval (.Constant (.str key) kd p) env, do let x ← eval v env; standAt pos; pure x) :: pairTrees ks vs env pos)) _ _ _
      unfold evalPairs
      refine wpAny_bind (wpAny_Constant_str ?_)
      refine wpAny_bind (wpAny_holding (wpAny_bind (ev h1 hR (X.tok _) fun v1 s1 μ1 I1 X1 l1 hv1 => wpAny_bind (wpAny_standAt (wpAny_pure ?_)))))
      refine wpAny_bind (wpAny_holding (ih h2 X1 fun ps kvs s2 μ2 I2 X2 l2 hc hd hnd hmem => wpAny_pure ?_))
      refine k _ ((key, v1) :: kvs) s2 μ2 I2 X2 (l1.trans l2) ⟨by simp [PySem.strKind, Value.isStrOf], rfl, hc⟩ (.cons (l2.V hv1) hd) ?_ ?_
      · rw [List.map_cons, List.nodup_cons]
        exact ⟨fun hm => hn (hmem _ hm), hnd⟩
      · intro x hx
        rw [List.lookup_cons]
        rcases List.mem_cons.mp hx with rfl | hx
        · simp
        · split
          · rfl
          · exact hmem x hx

theorem dict_shape : ∀ {ks : List (Option Expr)} {vs : List Expr} {st : St} {es : List (Str × MV)}, dictOf? R ks vs me lc st = some (es, st') → ks.all (·.isSome) = true ∧ ks.length = vs.length ∧ es.length = vs.length := by
  intro ks
  induction ks with
  | nil =>
    intro vs st es h
    induction vs using List.casesOn with
    | nil =>
      obtain ⟨rfl, rfl⟩ := some2 h
      exact ⟨rfl, rfl, rfl⟩
    | cons => exact no_some h
  | cons q ks ih =>
    intro vs st es h
    induction vs using List.casesOn with
    | nil => exact no_some h
    | cons v vs =>
      obtain ⟨key, hk, h⟩ := bind_some h
      refine bindE h fun mv st1 h1 h => ?_
      refine bindE h fun r st2 h2 h => ?_
      obtain ⟨hn, g⟩ := ifN h
      clear h
      obtain ⟨rfl, rfl⟩ := some2 g
      obtain ⟨kd, p, rfl⟩ := key_inv hk
      obtain ⟨a, b, c⟩ := ih h2
      exact ⟨by rw [List.all_cons, a]; rfl, congrArg (· + 1) b, congrArg (· + 1) c⟩

theorem sim_dictDisplay (top : TopOk B K) (ev : EvS B R n) {pos : Pos} (hR : Room A n) {Q : Value → Shared → Prop} {ks : List (Option Expr)} {vs : List Expr} {es : List (Str × MV)} (h0 : 0 < vs.length) (hl : vs.length ≤ 15)
    (h : dictOf? R ks vs me lc st = some (es, st')) (X : At B env me lc st μ I s₀ μ₀ I₀ s)
    (k : ∀ d s' μ' I', At B env me lc st' μ' I' s₀ μ₀ I₀ s' → Le μ I μ' I' → Own B env me μ' I' s'.heap d → s₀.heap.get? d = none → OH B I' μ' s'.heap d (.dict es) → Q (.ref d) s') : wpAny B.M A (eval (.Dict ks vs pos) env) Q E s := by
  obtain ⟨sh1, sh2, sh3⟩ := dict_shape h
  have hd0 : s₀.heap.get? s.heap.objs.size = none := X.ext.old (fresh_size _)
  have X1 := X.grow (h' := s.heap.push { cls := .type "dict", data := .dict #[] }) (fun b o e => Heap.get?_push_of_some _ e) s.toks
  have hd1 : (s.heap.push { cls := .type "dict", data := .dict #[] }).get? s.heap.objs.size = some { cls := .type "dict", data := .dict #[] } := Heap.get?_push_size _ rfl
  have W1 : Own B env me μ I (s.heap.push { cls := .type "dict", data := .dict #[] }) s.heap.objs.size := Own.fresh X (fresh_size _) hd1 (fun u e => nomatch e)
  refine wpAny_Dict_any sh1 sh2 (fun e => by rw [e] at sh2; simp at sh2; omega) (by omega) ?_
  refine sim_pairs ev hR h X1.start fun ps kvs s2 μ2 I2 X2 l2 hc hd hnd _ => ?_
  obtain ⟨W2, hd2⟩ := W1.ext hd1 X2.ext
  have hD : s2.heap.DictOf (strKind B.prog B.w) s.heap.objs.size [] := by
    obtain ⟨o, hg, hdo⟩ := Heap.dictOf_iff.mp (Heap.DictOf.new (knd := strKind B.prog B.w) s.heap)
    rw [hd1] at hg; cases hg
    exact Heap.dictOf_iff.mpr ⟨_, hd2, hdo⟩
  refine wpAny_storeAll (knd := strKind B.prog B.w) ps kvs [] s2 _ hc hD (by rw [hd.length, sizeLine_eq]; simp; omega) fun h' hD' hs => ?_
  rw [merged_nil_of_nodup kvs hnd] at hD'
  have X3 := (X1.trans X2).scratch W2 hd0 (fun b o hb e => (hs.2 b hb).trans e) (s2.toks + ps.length)
  refine k _ _ μ2 I2 X3 l2 ?_ hd0 ⟨⟨big_new X top.big, by omega⟩, kvs, hD', hd⟩
  obtain ⟨o, es', ep, ho, _, hdt, _⟩ := hD'
  exact W2.but ho (fun u e => by rw [hdt] at e; cases e)
end
end Mine
end
section
open PySem PySem.W PySem.Calls PyProof.Rows PySem.Spec
namespace Mine

section
variable {B : Base} {R : Rec} {n : Nat} {K : Frag} {env : Env} {me : ME} {lc lc' : Lc} {st st' : St} {μ μ' μ₀ : List Addr} {I I' I₀ : Led} {s s' s₀ : Shared} {A : Around} {E : Value → Shared → Prop}

theorem evs_length : ∀ {es : List Expr} {st : St} {vs : List MV} {st' : St}, evs R es me lc st = some (vs, st') → vs.length = es.length
  | [], st, vs, st', h => by
    rw [evs_nil] at h
    obtain ⟨rfl, rfl⟩ := some2 h
    rfl
  | e :: r, st, vs, st', h => by
    rw [evs_step] at h
    refine bindE (h) fun v st1 h1 h => ?_
    refine bindE (h) fun ws st2 h2 h => ?_
    obtain ⟨rfl, rfl⟩ := some2 h
    simp [evs_length h2]

noncomputable abbrev Kont (B : Base) (env : Env) (me : ME) (lc : Lc) (st : St) (μ : List Addr) (I : Led) (s₀ : Shared) (μ₀ : List Addr) (I₀ : Led) (m : MV) (Q : Value → Shared → Prop) : Prop :=
  ∀ v s' μ' I', At B env me lc st μ' I' s₀ μ₀ I₀ s' → Le μ I μ' I' → V I' μ' v m → Q v s'

theorem ev_tuple (ev : EvS B R n) (hR : Room A n) {es : List Expr} {c : Nat} {pos : Pos} {vs : List MV} {Q : Value → Shared → Prop} (hs : es.any isStarred = false) (hz : es.length ≤ 1048576) (h : evs R es me lc st = some (vs, st')) (X : At B env me lc st μ I s₀ μ₀ I₀ s)
    (k : Kont B env me lc st' μ I s₀ μ₀ I₀ (.tup vs) Q) : wpAny B.M A (eval (.Tuple es c pos) env) Q E s := by
  have hl := evs_length h
  refine Tuple_ (sim_evs ev hR hs h X fun ws s1 μ1 I1 X1 l1 hv => ?_)
  obtain ⟨X', l⟩ := X1.pushI (o := { cls := .type "tuple", data := .seq ws.toArray }) rfl s1.toks
  exact wpAny_newObj_type (k _ _ _ _ X' (l1.trans l) (.tup (.head _) rfl rfl (l.VS hv) (by omega))) (by show ws.toArray.size ≤ sizeLine; rw [List.size_toArray, hv.length, sizeLine_eq]; omega)

theorem ev_frozen (ev : EvS B R n) (hR : Room A n) {es : List Expr} {pos : Pos} {vs : List MV} {Q : Value → Shared → Prop} (hs : es.any isStarred = false) (hz : es.length ≤ 1048576) (h : evs R es me lc st = some (vs, st')) (X : At B env me lc st μ I s₀ μ₀ I₀ s)
    (k : Kont B env me lc st' μ I s₀ μ₀ I₀ (.lst vs) Q) : wpAny B.M A (eval (.List es pos) env) Q E s := by
  have hl := evs_length h
  refine List_ (sim_evs ev hR hs h X fun ws s1 μ1 I1 X1 l1 hv => ?_)
  obtain ⟨X', l⟩ := X1.pushI (o := { cls := .type "list", data := .seq ws.toArray }) rfl s1.toks
  exact wpAny_newObj_type (k _ _ _ _ X' (l1.trans l) (.lst (.head _) rfl rfl (l.VS hv) (by omega))) (by show ws.toArray.size ≤ sizeLine; rw [List.size_toArray, hv.length, sizeLine_eq]; omega)

theorem ev_listAt (ev : EvS B R n) (hR : Room A n) {es : List Expr} {pos : Pos} {vs : List MV} {Q : Value → Shared → Prop} (hs : es.any isStarred = false) (hz : es.length ≤ 1048576) (h : evs R es me lc st = some (vs, st')) (X : At B env me lc st μ I s₀ μ₀ I₀ s)
    (k : Kont B env me lc (st' ++ [.list vs]) μ I s₀ μ₀ I₀ (.loc st'.length) Q) : wpAny B.M A (eval (.List es pos) env) Q E s := by
  have hl := evs_length h
  refine List_ (sim_evs ev hR hs h X fun ws s1 μ1 I1 X1 l1 hv => ?_)
  obtain ⟨X', l, e⟩ := X1.loc (h' := s1.heap.push { cls := .type "list", data := .seq ws.toArray }) (mo := .list vs) (fun _ _ e => Heap.get?_push_of_some _ e) (fresh_size _) ⟨ws, 0, Heap.get?_push_size _ rfl, hv, by omega⟩ s1.toks
  exact wpAny_newObj_type (k _ _ _ _ X' (l1.trans l) (.loc e)) (by show ws.toArray.size ≤ sizeLine; rw [List.size_toArray, hv.length, sizeLine_eq]; omega)

theorem foldl_replicate (n : Nat) (v : Value) (acc : Array Value) : List.foldl (fun x1 x2 => x1 ++ x2) acc (List.replicate n #[v]) = acc ++ (List.replicate n v).toArray := by
  induction n generalizing acc with
  | zero => simp
  | succ n ih =>
    rw [List.replicate_succ, List.foldl_cons, ih, List.replicate_succ]
    apply Array.ext'
    simp

theorem VS_replicate {v : Value} {m : MV} (h : V I μ v m) : ∀ n, VS I μ (List.replicate n v) (List.replicate n m)
  | 0 => .nil
  | n + 1 => .cons h (VS_replicate h n)

theorem list_times {l : Addr} {v : Value} {x : Int} {u : Tok} {Q : Value → Shared → Prop} (hl : s.heap.get? l = some { cls := .type "list", data := .seq #[v] }) (h0 : 0 ≤ x) (h1 : x ≤ 1048576)
    (h : Q (.ref s.heap.objs.size) { s with heap := s.heap.push { cls := .type "list", data := .seq (List.replicate x.toNat v).toArray } }) : wpAny B.M A (binaryOp .Mult (.ref l) (.int x u)) Q E s := by
  refine wpAny_binaryOp_repeat_ref (T := "list") (U := "int") (by decide) ⟨_, hl, rfl⟩ (fun s' => typeIs_int s' x u) noFill_list_mul F.fills_int_mul F.slot_int_rmul repeat_list F.slot_int_index.lookup
    (call_meets F.slot_int_rmul (typeIs_int s x u) F.entry_int_rmul (F.args_int_rmul_2 _ _) (int___rmul___int_list x u l #[v] 0)
      ⟨hl, rfl, ⟨_, hl, rfl⟩, call_meets F.slot_list_mul ⟨_, hl, rfl⟩ F.entry_list_mul (F.args_list_mul_2 _ _)
        (AutoListH.list___mul___list_int_3 l #[v] 0 x u (by simp [Builtin.List.listFitsIndex]; omega) (by simp; omega) (by simp [Builtin.List.listTooLong, sizeLine]; omega))
        ⟨hl, ?_⟩⟩)
  have e : List.foldl (fun x1 x2 => x1 ++ x2) #[] (List.replicate (if (#[v] : Array Value).isEmpty = true then 0 else x.toNat) #[v]) = (List.replicate x.toNat v).toArray := by
    rw [if_neg (by simp), foldl_replicate]; simp
  rw [e]
  exact h

theorem ev_times (ev : EvS B R n) (hR : Room A n) {e r : Expr} {p pos : Pos} {m : MV} {x : Int} {st1 : St} {Q : Value → Shared → Prop} (hs : isStarred e = false) (h1 : R.ev e me lc st = some (m, st1)) (h2 : R.ev r me lc st1 = some (.int x, st')) (h0 : 0 ≤ x) (hx : x ≤ 1048576)
    (X : At B env me lc st μ I s₀ μ₀ I₀ s) (k : Kont B env me lc (st' ++ [.list (List.replicate x.toNat m)]) μ I s₀ μ₀ I₀ (.loc st'.length) Q) : wpAny B.M A (eval (.BinOp (.List [e] p) .Mult r pos) env) Q E s := by
  refine wpAny_BinOp ?_
  have hh : evs R [e] me lc st = some ([m], st1) := by rw [evs_step, h1]; rfl
  refine List_ (sim_evs ev hR (by simp [hs]) hh X fun ws s1 μ1 I1 X1 l1 hv => ?_)
  · obtain ⟨v, _, rfl, gv, hv'⟩ := hv.inv
    obtain rfl := hv'.inv
    obtain ⟨X', l⟩ := X1.pushI (o := { cls := .type "list", data := .seq #[v] }) rfl s1.toks
    refine wpAny_newObj_type ?_ (by show (#[v] : Array Value).size ≤ sizeLine; rw [sizeLine_eq]; simp)
    refine ev h2 hR X' fun w s2 μ2 I2 X2 l2 hw => ?_
    obtain ⟨_, rfl⟩ := hw.inv
    refine list_times (X2.good.imm _ (l2.sub _ (.head _))) h0 hx ?_
    obtain ⟨X3, l3, e⟩ := X2.loc (h' := s2.heap.push { cls := .type "list", data := .seq (List.replicate x.toNat v).toArray }) (mo := .list (List.replicate x.toNat m)) (fun _ _ e => Heap.get?_push_of_some _ e) (fresh_size _)
      ⟨List.replicate x.toNat v, 0, Heap.get?_push_size _ rfl, VS_replicate (l2.V (l.V gv)) _, by rw [List.length_replicate]; omega⟩ s2.toks
    exact k _ _ _ _ X3 (l1.trans (l.trans (l2.trans l3))) (.loc e)

theorem sim_dget {value slice : Expr} {d : Addr} {es : List (Str × MV)} {key : Str} {m : MV} {vi : Value} {Q : Value → Shared → Prop} (hO : OH B I μ s.heap d (.dict es)) (hi : V I μ vi (.str key)) (h : es.lookup key = some m) (hs : isSlice slice = false)
    (k : ∀ v tk, V I μ v m → Q v { s with toks := tk }) : wpAny B.M A (subscriptTail value slice (.ref d) vi) Q E s := by
  obtain ⟨_, kvs, D, ra⟩ := hO
  obtain ⟨v, hv, hV⟩ := (ra.valueAt key).2 m h
  obtain ⟨_, rfl⟩ := hi.inv
  exact tail_any D.typeIs PySem.F.slot_dict_getitem.lookup (wpAny_getItem_of (knd := strKind B.prog B.w) (k := key) (by simp [PySem.strKind, Value.isStrOf]) D.mapOf hv (k v _ hV)) (subscripted_plain hs)

theorem ev_slice (ev : EvS B R n) (hR : Room A n) {v : Expr} {lo hi : Option Expr} {p pos : Pos} {o m : MV} {a b : Option Int} {st1 st2 : St} {Q : Value → Shared → Prop} (h1 : R.ev v me lc st = some (o, st1)) (h2 : evOpt R lo me lc st1 = some (a, st2)) (h3 : evOpt R hi me lc st2 = some (b, st'))
    (h4 : sliceM o a b = some m) (X : At B env me lc st μ I s₀ μ₀ I₀ s) (k : Kont B env me lc st' μ I s₀ μ₀ I₀ m Q) : wpAny B.M A (eval (.Subscript v (.Slice lo hi none p) pos) env) Q E s := by
  have part : ∀ {x : Option Expr} {st st' : St} {a : Option Int} {s : Shared} {μ I} {Q : Value → Shared → Prop}, evOpt R x me lc st = some (a, st') → At B env me lc st μ I s₀ μ₀ I₀ s →
      (∀ v s' μ' I', At B env me lc st' μ' I' s₀ μ₀ I₀ s' → Le μ I μ' I' → IsPart v a → Q v s') → wpAny B.M A (evalPart x env) Q E s := by
    intro x st st' a s μ I Q h X k
    induction x using Option.casesOn with
    | none =>
      obtain ⟨rfl, rfl⟩ := some2 h
      exact wpAny_pure (k _ s μ I X .refl .none)
    | some e =>
      refine bindE h fun w st1 h1 h => ?_
      obtain ⟨i, e1, g⟩ := bind_some h
      obtain ⟨rfl, rfl⟩ := some2 g
      refine ev h1 hR X fun v s' μ' I' X' l' hv => ?_
      obtain ⟨_, rfl⟩ := (asIntM_eq e1 ▸ hv).inv
      exact k _ s' μ' I' X' l' (.int _ _)
  refine Subscript_ (ev h1 hR X fun vo s1 μ1 I1 X1 l1 hv => ?_)
  refine wpAny_Slice (part h2 X1 fun l s2 μ2 I2 X2 l2 pl => part h3 X2 fun u s3 μ3 I3 X3 l3 pu => wpAny_pure ?_)
  have X4 := X3.grow (h' := s3.heap.push { cls := .type "slice", data := .fields #[l, u, .none] }) (fun _ _ e => Heap.get?_push_of_some _ e) s3.toks
  exact sim_slice h4 (l3.V (l2.V hv)) X4 (Heap.IsSliceOf.new _ _ _ _) pl pu fun v s' I' X' l' hv' => k v s' _ I' X' (l1.trans (l2.trans (l3.trans l'))) hv'

theorem ev_attr (ok : ClsOk B K) (ev : EvS B R n) (hR : Room A n) {x : Str} {p pos : Pos} {a : Str} {o m : MV} {Q : Value → Shared → Prop} (h1 : R.ev (.Name x p) me lc st = some (o, st')) (h2 : attrM B.P o a st' = some m) (X : At B env me lc st μ I s₀ μ₀ I₀ s)
    (k : Kont B env me lc st' μ I s₀ μ₀ I₀ m Q) : wpAny B.M A (eval (.Attribute (.Name x p) a pos) env) Q E s := by
  rw [arm_eval_Attribute]
  have eb : attributeBase (.Name x p) a env (eval (.Name x p) env) = eval (.Name x p) env := rfl
  rw [eb]
  refine wpAny_bind (ev h1 hR X fun v s1 μ1 I1 X1 l1 hv => ?_)
  refine wpAny_bind (wpAny_standAt (wpAny_bind (wpAny_holding (sim_attr ok h2 hv X1 fun r tk hr => ?_))))
  exact wpAny_bind (wpAny_letTemporaryGo (wpAny_pure (k _ _ _ _ (X1.tok tk) l1 hr)))
end
end Mine
end
section
open PySem PySem.W PySem.Calls PyProof.Rows PySem.Spec
namespace Mine

section
variable {prog : Program} {w : World} {A : Around} {E : Value → Shared → Prop} {s : Shared}

theorem nextOf_tuple_item {it l : Addr} {i : Nat} {items : Array Value} {x : Value} {Q : Value → Shared → Prop} (hit : s.heap.IsTupleIter it l i)
    (hl : s.heap.IsTuple l items) (hx : items[i]? = some x)
    (hQ : ∀ h', h'.IsTupleIter it l (i + 1) → Heap.SameBut it s.heap h' → Q x { s with heap := h' }) :
    wpAny (model prog w) A (Builtin.SmallTypes.nextOf (.ref it)) Q E s := by
  obtain ⟨o, ho, hc, hd⟩ := id hit
  obtain ⟨ol, hol, _, nl, hdl⟩ := hl
  unfold Builtin.SmallTypes.nextOf
  refine wpAny_bind (wpAny_callSpecial?_slot (name := Str.ofString "__next__") hit.typeIs F.slot_tuple_iterator_next
    (wpAny_call_entry F.slot_tuple_iterator_next hit.typeIs F.entry_tuple_iterator_next ?_ (F.args_tuple_iterator_next_1 _)))
  show wpAny _ _ (field (.ref it) 0 >>= _) _ _ s
  refine wpAny_bind (wpAny_field ho hd (x := .ref l) rfl ?_)
  show wpAny _ _ (if (Value.ref l == Value.none) = true then _ else _) _ _ s
  rw [if_neg (show ¬ ((Value.ref l == Value.none) = true) from Bool.false_ne_true)]
  show wpAny _ _ (field (.ref it) 1 >>= _) _ _ s
  refine wpAny_bind (wpAny_field ho hd (x := .int i 0) rfl ?_)
  show wpAny _ _ (seqItems? (.ref l) >>= _) _ _ s
  refine wpAny_bind (wpAny_seqItems hol hdl ?_)
  simp only [Int.toNat_natCast, hx]
  refine wpAny_bind (wpAny_setField ho hd (by simp) (wpAny_pure ⟨x, rfl, wpAny_pure (hQ _ ?_ (Heap.SameBut.update ..))⟩))
  exact ⟨_, Heap.get?_update_self _ ho (Obj.isFreed_of_fields (Obj.data_mapFields hd _)), (Obj.cls_mapFields ..).trans hc, by
    rw [Obj.data_mapFields hd]; simp [rawInt]⟩

theorem nextOf_tuple_end {it l : Addr} {i : Nat} {items : Array Value} {Q : Value → Shared → Prop} (hh : A.handled = none)
    (hit : s.heap.IsTupleIter it l i) (hl : s.heap.IsTuple l items) (hx : items[i]? = none)
    (hE : ∀ h' e, Heap.ExtBut it s.heap h' → (∃ o, h'.get? e = some o ∧ o.cls = .type "StopIteration") → E (.ref e) { s with heap := h' }) :
    wpAny (model prog w) A (Builtin.SmallTypes.nextOf (.ref it)) Q E s := by
  obtain ⟨o, ho, hc, hd⟩ := id hit
  obtain ⟨ol, hol, _, nl, hdl⟩ := hl
  unfold Builtin.SmallTypes.nextOf
  refine wpAny_bind (wpAny_callSpecial?_slot (name := Str.ofString "__next__") hit.typeIs F.slot_tuple_iterator_next
    (wpAny_call_entry F.slot_tuple_iterator_next hit.typeIs F.entry_tuple_iterator_next ?_ (F.args_tuple_iterator_next_1 _)))
  show wpAny _ _ (field (.ref it) 0 >>= _) _ _ s
  refine wpAny_bind (wpAny_field ho hd (x := .ref l) rfl ?_)
  show wpAny _ _ (if (Value.ref l == Value.none) = true then _ else _) _ _ s
  rw [if_neg (show ¬ ((Value.ref l == Value.none) = true) from Bool.false_ne_true)]
  show wpAny _ _ (field (.ref it) 1 >>= _) _ _ s
  refine wpAny_bind (wpAny_field ho hd (x := .int i 0) rfl ?_)
  show wpAny _ _ (seqItems? (.ref l) >>= _) _ _ s
  refine wpAny_bind (wpAny_seqItems hol hdl ?_)
  simp only [Int.toNat_natCast, hx]
  refine wpAny_bind (wpAny_rule (wpAny_bind (wpAny_setField ho hd (by simp) ?_)))
  show wpAny _ _ (newExc (.type "StopIteration") [] >>= _) _ _ _
  refine wpAny_bind ?_
  simp only [newExc, newTuple]
  refine wpAny_bind (wpAny_newObj_type ?_ (by size_fits))
  refine wpAny_bind (m := firstArgMember _ _) (wpAny_of_eq (a := Value.none) (by first | rfl | (simp only [firstArgMember]; rfl)) ?_)
  refine wpAny_newObj_type ?_ (by size_fits)
  simp only [raiseNew]
  refine wpAny_bind (wpAny_handled ?_)
  first | rw [show A.in1.handled = none from hh] | rw [hh]
  refine wpAny_bind (wpAny_pure (wpAny_throw ?_))
  exact hE _ _ (((Heap.SameBut.update ..).extBut.push _).push _) ⟨_, Heap.get?_push_size _ rfl, rfl⟩

theorem nextOf_bytes_item {it : Addr} {b : Array UInt8} {t : Tok} {i : Nat} {c : UInt8} {Q : Value → Shared → Prop} (hit : KBw.IsBytesIter s.heap it b t i) (hx : b[i]? = some c)
    (hQ : ∀ h', KBw.IsBytesIter h' it b t (i + 1) → Heap.SameBut it s.heap h' → Q (.int (c.toNat : Int) s.toks) { s with heap := h', toks := s.toks + 1 }) :
    wpAny (model prog w) A (Builtin.SmallTypes.nextOf (.ref it)) Q E s := by
  obtain ⟨o, ho, hc, hd⟩ := id hit
  unfold Builtin.SmallTypes.nextOf
  refine wpAny_bind (wpAny_callSpecial?_slot (name := Str.ofString "__next__") (KBw.iter_typeIs hit) KBw.slot_next
    (wpAny_call_entry KBw.slot_next (KBw.iter_typeIs hit) KBw.entry_next ?_ (KBw.args_next _)))
  show wpAny _ _ (field (.ref it) 0 >>= _) _ _ s
  refine wpAny_bind (wpAny_field ho hd (x := .bytes b t) rfl ?_)
  show wpAny _ _ (if (Value.bytes b t == Value.none) = true then _ else _) _ _ s
  rw [if_neg (show ¬ ((Value.bytes b t == Value.none) = true) from Bool.false_ne_true)]
  show wpAny _ _ (field (.ref it) 1 >>= _) _ _ s
  refine wpAny_bind (wpAny_field ho hd (x := .int i 0) rfl ?_)
  refine wpAny_bind (wpAny_of_eq (a := b) rfl ?_)
  simp only [Int.toNat_natCast, hx]
  refine wpAny_bind (wpAny_setField ho hd (by simp) (wpAny_bind (wpAny_mkInt (wpAny_pure ⟨_, rfl, wpAny_pure (hQ _ ?_ (Heap.SameBut.update ..))⟩))))
  exact ⟨_, Heap.get?_update_self _ ho (Obj.isFreed_of_fields (Obj.data_mapFields hd _)), (Obj.cls_mapFields ..).trans hc, by
    rw [Obj.data_mapFields hd]; simp [rawInt]⟩

theorem nextOf_bytes_end {it : Addr} {b : Array UInt8} {t : Tok} {i : Nat} {Q : Value → Shared → Prop} (hh : A.handled = none) (hit : KBw.IsBytesIter s.heap it b t i) (hx : b[i]? = none)
    (hE : ∀ h' e, Heap.ExtBut it s.heap h' → (∃ o, h'.get? e = some o ∧ o.cls = .type "StopIteration") → E (.ref e) { s with heap := h' }) :
    wpAny (model prog w) A (Builtin.SmallTypes.nextOf (.ref it)) Q E s := by
  obtain ⟨o, ho, hc, hd⟩ := id hit
  unfold Builtin.SmallTypes.nextOf
  refine wpAny_bind (wpAny_callSpecial?_slot (name := Str.ofString "__next__") (KBw.iter_typeIs hit) KBw.slot_next
    (wpAny_call_entry KBw.slot_next (KBw.iter_typeIs hit) KBw.entry_next ?_ (KBw.args_next _)))
  show wpAny _ _ (field (.ref it) 0 >>= _) _ _ s
  refine wpAny_bind (wpAny_field ho hd (x := .bytes b t) rfl ?_)
  show wpAny _ _ (if (Value.bytes b t == Value.none) = true then _ else _) _ _ s
  rw [if_neg (show ¬ ((Value.bytes b t == Value.none) = true) from Bool.false_ne_true)]
  show wpAny _ _ (field (.ref it) 1 >>= _) _ _ s
  refine wpAny_bind (wpAny_field ho hd (x := .int i 0) rfl ?_)
  refine wpAny_bind (wpAny_of_eq (a := b) rfl ?_)
  simp only [Int.toNat_natCast, hx]
  refine wpAny_bind (wpAny_rule (wpAny_bind (wpAny_setField ho hd (by simp) ?_)))
  show wpAny _ _ (newExc (.type "StopIteration") [] >>= _) _ _ _
  refine wpAny_bind ?_
  simp only [newExc, newTuple]
  refine wpAny_bind (wpAny_newObj_type ?_ (by size_fits))
  refine wpAny_bind (m := firstArgMember _ _) (wpAny_of_eq (a := Value.none) (by first | rfl | (simp only [firstArgMember]; rfl)) ?_)
  refine wpAny_newObj_type ?_ (by size_fits)
  simp only [raiseNew]
  refine wpAny_bind (wpAny_handled ?_)
  first | rw [show A.in1.handled = none from hh] | rw [hh]
  refine wpAny_bind (wpAny_pure (wpAny_throw ?_))
  exact hE _ _ (((Heap.SameBut.update ..).extBut.push _).push _) ⟨_, Heap.get?_push_size _ rfl, rfl⟩
end

theorem draws_tuple {prog : Program} {w : World} {A : Around} (hh : A.handled = none) (it l : Addr) (hne : l ≠ it) (items : Array Value) :
    Draws prog w A it [it, l] items.size (fun i v => items[i]? = some v) (fun i h => h.IsTupleIter it l i ∧ h.IsTuple l items) where
  live := fun _ _ st => let ⟨o, ho, _⟩ := st.1; ⟨o, ho⟩
  frame := fun _ _ _ st hk => ⟨st.1.at fun o e => hk it (by simp) o e, st.2.at fun o e => hk l (by simp) o e⟩
  item := fun i s Q E hi st hQ => by
    refine nextOf_tuple_item st.1 st.2 (x := items[i]) (by simp [hi]) fun h' hit' hs' => ?_
    exact hQ _ h' s.toks (by simp [hi]) ⟨hit', st.2.extBut hs'.extBut hne⟩ hs'
  done := fun s Q E st hE => nextOf_tuple_end hh st.1 st.2 (by simp) hE
theorem draws_bytes {prog : Program} {w : World} {A : Around} (hh : A.handled = none) (it : Addr) (b : Array UInt8) (t : Tok) :
    Draws prog w A it [it] b.size (ByteAt b) (fun i h => KBw.IsBytesIter h it b t i) where
  live := fun _ _ st => let ⟨o, ho, _⟩ := st; ⟨o, ho⟩
  frame := fun _ _ _ st hk => let ⟨o, ho, r⟩ := st; ⟨o, hk it (by simp) o ho, r⟩
  item := fun i s Q E hi st hQ => by
    refine nextOf_bytes_item st (c := b[i]) (by simp [hi]) fun h' hit' hs' => ?_
    exact hQ _ h' (s.toks + 1) ⟨_, _, by simp [hi], rfl⟩ hit' hs'
  done := fun s Q E st hE => nextOf_bytes_end hh st (by simp) hE
end Mine
end
section
open PySem PySem.W PySem.Calls PyProof.Rows PySem.Spec
namespace Mine

/-- what an iterator's object is -/
noncomputable def ItH (I : Led) (μ : List Addr) (h : Heap) (ia : Addr) : It → Prop
  | .tup xs i => ∃ a o vs n, (a, o) ∈ I ∧ o.cls = .type "tuple" ∧ o.data = .seq (List.toArray vs) n ∧ VS I μ vs xs ∧ h.IsTupleIter ia a i
  | .lst xs i => ∃ a o vs n, (a, o) ∈ I ∧ o.cls = .type "list" ∧ o.data = .seq (List.toArray vs) n ∧ VS I μ vs xs ∧ h.IsListIter ia a i
  | .loc l i => ∃ a, μ[l]? = some a ∧ h.IsListIter ia a i
  | .rng a c n => IsRangeIter h ia a n c
  | .byt b i => ∃ t, KBw.IsBytesIter h ia b.toArray t i
  | .enm _ _ => False

noncomputable def It.at : It → Nat → Prop
  | .tup xs i, k | .lst xs i, k => i = k ∧ i ≤ xs.length
  | .byt b i, k => i = k ∧ i ≤ b.length
  | _, _ => False

noncomputable def ItX (B : Base) (env : Env) (me : ME) (μ : List Addr) (I : Led) (h : Heap) (ia : Addr) : It → Prop
  | .enm k it => ∃ ja old, IsEnum h ia ja k old ∧ ia ≠ ja ∧ Own B env me μ I h ia ∧ Own B env me μ I h ja ∧ ItH I μ h ja it ∧ it.at k
  | it => Own B env me μ I h ia ∧ ItH I μ h ia it

/-- the objects that an iterator owns are new since s₀ -/
noncomputable def ItNew (h₀ : Heap) (h : Heap) (ia : Addr) : It → Prop
  | .enm k _ => ∃ ja old, IsEnum h ia ja k old ∧ h₀.get? ia = none ∧ h₀.get? ja = none
  | _ => h₀.get? ia = none

section
variable {B : Base} {R : Rec} {n : Nat} {K : Frag} {env : Env} {me : ME} {lc lc' : Lc} {st st' : St} {μ μ' μ₀ : List Addr} {I I' I₀ : Led} {s s' s₀ : Shared} {A : Around} {E : Value → Shared → Prop}

theorem ItH.obj {h : Heap} {ia : Addr} {it : It} (hi : ItH I μ h ia it) : ∃ o, h.get? ia = some o ∧ ∀ u, o.data ≠ .cell u := by
  induction it using It.casesOn with
  | tup =>
    obtain ⟨_, _, _, _, _, _, _, _, o, e, _, hd⟩ := hi
    exact ⟨o, e, fun u q => nomatch hd.symm.trans q⟩
  | lst =>
    obtain ⟨_, _, _, _, _, _, _, _, o, e, _, hd⟩ := hi
    exact ⟨o, e, fun u q => nomatch hd.symm.trans q⟩
  | loc =>
    obtain ⟨_, _, o, e, _, hd⟩ := hi
    exact ⟨o, e, fun u q => nomatch hd.symm.trans q⟩
  | rng => exact ⟨_, hi, fun u q => nomatch q⟩
  | byt =>
    obtain ⟨_, o, e, _, hd⟩ := hi
    exact ⟨o, e, fun u q => nomatch hd.symm.trans q⟩
  | enm => exact hi.elim
theorem ItH.live {h : Heap} {ia : Addr} {it : It} (hi : ItH I μ h ia it) : ∃ o, h.get? ia = some o := hi.obj.elim fun o q => ⟨o, q.1⟩

theorem ItH.ext {h h' : Heap} {ia : Addr} (le : Le μ I μ' I') (hk : ∀ o, h.get? ia = some o → h'.get? ia = some o) {it : It} (hi : ItH I μ h ia it) : ItH I' μ' h' ia it := by
  induction it using It.casesOn with
  | tup =>
    obtain ⟨a, o, vs, n, m, c, d, v, x⟩ := hi
    exact ⟨a, o, vs, n, le.sub _ m, c, d, le.VS v, x.at hk⟩
  | lst =>
    obtain ⟨a, o, vs, n, m, c, d, v, x⟩ := hi
    exact ⟨a, o, vs, n, le.sub _ m, c, d, le.VS v, x.at hk⟩
  | loc =>
    obtain ⟨a, m, x⟩ := hi
    exact ⟨a, le.get _ _ m, x.at hk⟩
  | rng => exact hk _ hi
  | byt =>
    obtain ⟨t, o, e, r⟩ := hi
    exact ⟨t, o, hk _ e, r⟩
  | enm => exact hi.elim

theorem ItH.noCell {h : Heap} {ia : Addr} {it : It} (hi : ItH I μ h ia it) (u : Option Value) : ¬ h.IsCell ia u := fun ⟨o', e', hd'⟩ => by
  obtain ⟨o, e, hd⟩ := hi.obj
  obtain rfl := Option.some.inj (e.symm.trans e')
  exact hd _ hd'

theorem ItH.step {h h' : Heap} {ia : Addr} (x : Ext B (ownOf env me) μ I h μ' I' h') {it : It} (w : Own B env me μ I h ia) (hi : ItH I μ h ia it) : Own B env me μ' I' h' ia ∧ ItH I' μ' h' ia it := by
  obtain ⟨o, ho⟩ := hi.live
  obtain ⟨w', ho'⟩ := w.ext ho x
  exact ⟨w', hi.ext x.le fun o' e => Option.some.inj (ho.symm.trans e) ▸ ho'⟩
theorem ItX.ext {h h' : Heap} {ia : Addr} (x : Ext B (ownOf env me) μ I h μ' I' h') {it : It} (hi : ItX B env me μ I h ia it) : ItX B env me μ' I' h' ia it := by
  induction it using It.casesOn with
  | enm k it =>
    obtain ⟨ja, old, he, hne, w1, w2, hi, hat⟩ := hi
    obtain ⟨w1', he'⟩ := w1.ext he x
    obtain ⟨w2', hi'⟩ := hi.step x w2
    exact ⟨ja, old, he', hne, w1', w2', hi', hat⟩
  | _ => exact ItH.step x hi.1 hi.2

theorem isTuple_of {a : Addr} {o : Obj} {vs : List Value} {n : Nat} (h : s.heap.get? a = some o) (hc : o.cls = .type "tuple") (hd : o.data = .seq vs.toArray n) : s.heap.IsTuple a vs.toArray := ⟨o, h, hc, n, hd⟩

/-- a base iterator object is no cell -/
theorem own_push (X : At B env me lc st μ I s₀ μ₀ I₀ s) (o : Obj) (hf : o.isFreed = false) (hc : ∀ u, o.data ≠ .cell u) : Own B env me μ I (s.heap.push o) s.heap.objs.size :=
  Own.fresh X (fresh_size _) (Heap.get?_push_size _ hf) hc

theorem sim_iter {v : MV} {it : It} {vv : Value} {Q : Value → Shared → Prop} (h : itOf v st = some it) (hv : V I μ vv v) (X : At B env me lc st μ I s₀ μ₀ I₀ s)
    (k : ∀ ia s', At B env me lc st μ I s₀ μ₀ I₀ s' → Own B env me μ I s'.heap ia → ItH I μ s'.heap ia it → s₀.heap.get? ia = none → isEnm it = false → (∀ b o, s.heap.get? b = some o → s'.heap.get? b = some o) → Q (.ref ia) s') : wpAny B.M A (pyIter vv) Q E s := by
  have h0 : s₀.heap.get? s.heap.objs.size = none := X.ext.old (fresh_size _)
  induction v using MV.casesOn with
  | tup xs =>
    obtain rfl := Option.some.inj h
    obtain ⟨_, _, _, _, rfl, ma, ca, da, ra, za⟩ := hv.inv
    exact wpAny_pyIter_tuple (isTuple_of (X.good.imm _ ma) ca da) (k _ _ (X.grow (fun _ _ e => Heap.get?_push_of_some _ e) s.toks) (own_push X _ rfl (fun u e => nomatch e)) ⟨_, _, _, _, ma, ca, da, ra, _, Heap.get?_push_size _ rfl, rfl, rfl⟩ h0 rfl fun _ _ e => Heap.get?_push_of_some _ e)
  | lst xs =>
    obtain rfl := Option.some.inj h
    obtain ⟨_, _, _, _, rfl, ma, ca, da, ra, za⟩ := hv.inv
    exact wpAny_pyIter_list (isList_of (X.good.imm _ ma) ca da) (k _ _ (X.grow (fun _ _ e => Heap.get?_push_of_some _ e) s.toks) (own_push X _ rfl (fun u e => nomatch e)) ⟨_, _, _, _, ma, ca, da, ra, _, Heap.get?_push_size _ rfl, rfl, rfl⟩ h0 rfl fun _ _ e => Heap.get?_push_of_some _ e)
  | loc l =>
    obtain ⟨xs, hxs, g⟩ := bind_some h
    obtain rfl := Option.some.inj g
    obtain ⟨_, rfl, hl⟩ := hv.inv
    obtain ⟨vs, L, ra, za⟩ := X.good.list hl (listAt_eq hxs)
    exact wpAny_pyIter_list L (k _ _ (X.grow (fun _ _ e => Heap.get?_push_of_some _ e) s.toks) (own_push X _ rfl (fun u e => nomatch e)) ⟨_, hl, _, Heap.get?_push_size _ rfl, rfl, rfl⟩ h0 rfl fun _ _ e => Heap.get?_push_of_some _ e)
  | rng a b c =>
    obtain ⟨hc, g⟩ := ifS h
    obtain rfl := Option.some.inj g
    have hc := Bool.and_eq_true_iff.mp hc
    obtain ⟨r1, r2, r3⟩ := range_small hc.1 ((Bool.or_eq_true_iff.mp hc.2).imp of_decide_eq_true of_decide_eq_true)
    obtain ⟨_, _, _, _, rfl, hm⟩ := hv.inv
    refine wpAny_pyIter_range (X.good.imm _ hm) r1 ?_
    rw [r2]
    exact (k _ _ (X.grow (fun _ _ e => Heap.get?_push_of_some _ e) s.toks) (own_push X _ rfl (fun u e => nomatch e)) (Heap.get?_push_size _ rfl) h0 rfl fun _ _ e => Heap.get?_push_of_some _ e)
  | bytes b =>
    obtain rfl := Option.some.inj h
    obtain ⟨t, rfl, hz⟩ := hv.inv
    exact KBw.pyIter_bytes (k _ _ (X.grow (fun _ _ e => Heap.get?_push_of_some _ e) s.toks) (own_push X _ rfl (fun u e => nomatch e)) ⟨t, _, Heap.get?_push_size _ rfl, rfl, rfl⟩ h0 rfl fun _ _ e => Heap.get?_push_of_some _ e)
  | _ => exact no_some h

theorem sim_iterSelf {it : It} {ia : Addr} {Q : Value → Shared → Prop} (hi : ItH I μ s.heap ia it) (k : Q (.ref ia) s) : wpAny B.M A (pyIter (.ref ia)) Q E s := by
  induction it using It.casesOn with
  | tup => obtain ⟨_, _, _, _, _, _, _, _, x⟩ := hi; exact wpAny_pyIter_tupleiter x k
  | lst => obtain ⟨_, _, _, _, _, _, _, _, x⟩ := hi; exact wpAny_pyIter_listiter x k
  | loc => obtain ⟨_, _, x⟩ := hi; exact wpAny_pyIter_listiter x k
  | rng => exact wpAny_pyIter_rangeiter hi k
  | byt => obtain ⟨_, x⟩ := hi; exact KBw.pyIter_self x k
  | enm => exact hi.elim

theorem own_step {h' : Heap} {ia : Addr} {o : Obj} (W : Own B env me μ I s.heap ia) (ho : h'.get? ia = some o) (hc : ∀ u, o.data ≠ .cell u) : Own B env me μ I h' ia := W.but ho hc

/-- one step of a base iterator -/
theorem sim_nextH {it : It} {ia : Addr} {r : Option (MV × It)} {Q : Option Value → Shared → Prop} (hh : A.handled = none) (h : nextM it st = some r) (X : At B env me lc st μ I s₀ μ₀ I₀ s) (W : Own B env me μ I s.heap ia) (hi : ItH I μ s.heap ia it) (h0 : s₀.heap.get? ia = none)
    (kn : r = none → ∀ s', At B env me lc st μ I s₀ μ₀ I₀ s' → (∀ b o, b ≠ ia → s.heap.get? b = some o → s'.heap.get? b = some o) → Q none s')
    (ks : ∀ m it', r = some (m, it') → ∀ v s', At B env me lc st μ I s₀ μ₀ I₀ s' → V I μ v m → Own B env me μ I s'.heap ia → ItH I μ s'.heap ia it' → isEnm it' = false → (∀ b o, b ≠ ia → s.heap.get? b = some o → s'.heap.get? b = some o) → Q (some v) s') : wpAny B.M A (pyNext (.ref ia)) Q E s := by
  induction it using It.casesOn with
  | tup xs i =>
    obtain ⟨a, o, vs, c, m, hc, hd, ra, hit⟩ := hi
    have L := isTuple_of (X.good.imm _ m) hc hd
    have ne : a ≠ ia := fun e => W.i _ m e
    obtain rfl := Option.some.inj h
    clear h
    cases q : xs[i]? with
    | none =>
      refine wpAny_pyNext_tuple_end hh hit L ?_ fun h' he => ?_
      · simpa [ra.length] using q
      · exact kn (by rw [q]; rfl) _ (X.scratch W h0 (fun b o hb e => he b o hb e) s.toks) fun b o hb e => he b o hb e
    | some x =>
      obtain ⟨v, hv, hV⟩ := ra.get q
      refine wpAny_pyNext_tuple_item hit L (by simpa using hv) fun h' hit' hs => ?_
      have X' := X.scratch W h0 (fun b o hb e => (hs.2 b hb).trans e) s.toks
      refine ks x (.tup xs (i + 1)) (by rw [q]; rfl) v _ X' hV ?_ ⟨a, o, vs, c, m, hc, hd, ra, hit'⟩ rfl fun b o hb e => (hs.2 b hb).trans e
      obtain ⟨o', e1, e2, e3⟩ := hit'
      exact W.but e1 fun u e => by rw [e3] at e; cases e
  | lst xs i =>
    obtain ⟨a, o, vs, c, m, hc, hd, ra, hit⟩ := hi
    have L := isList_of (X.good.imm _ m) hc hd
    obtain rfl := Option.some.inj h
    clear h
    cases q : xs[i]? with
    | none =>
      refine wpAny_pyNext_list_end hh hit L ?_ fun h' he => ?_
      · simpa [ra.length] using q
      · exact kn (by rw [q]; rfl) _ (X.scratch W h0 (fun b o hb e => he b o hb e) s.toks) fun b o hb e => he b o hb e
    | some x =>
      obtain ⟨v, hv, hV⟩ := ra.get q
      refine wpAny_pyNext_list_item hit L (by simpa using hv) fun h' hit' hs => ?_
      have X' := X.scratch W h0 (fun b o hb e => (hs.2 b hb).trans e) s.toks
      refine ks x (.lst xs (i + 1)) (by rw [q]; rfl) v _ X' hV ?_ ⟨a, o, vs, c, m, hc, hd, ra, hit'⟩ rfl fun b o hb e => (hs.2 b hb).trans e
      obtain ⟨o', e1, e2, e3⟩ := hit'
      exact W.but e1 fun u e => by rw [e3] at e; cases e
  | loc l i =>
    obtain ⟨a, hl, hit⟩ := hi
    obtain ⟨xs, hst, g⟩ := bind_some h
    obtain rfl := Option.some.inj g
    clear h g
    obtain ⟨vs, L, ra, za⟩ := X.good.list hl (listAt_eq hst)
    cases q : xs[i]? with
    | none =>
      refine wpAny_pyNext_list_end hh hit L ?_ fun h' he => ?_
      · simpa [ra.length] using q
      · exact kn (by rw [q]; rfl) _ (X.scratch W h0 (fun b o hb e => he b o hb e) s.toks) fun b o hb e => he b o hb e
    | some x =>
      obtain ⟨v, hv, hV⟩ := ra.get q
      refine wpAny_pyNext_list_item hit L (by simpa using hv) fun h' hit' hs => ?_
      have X' := X.scratch W h0 (fun b o hb e => (hs.2 b hb).trans e) s.toks
      refine ks x (.loc l (i + 1)) (by rw [q]; rfl) v _ X' hV ?_ ⟨a, hl, hit'⟩ rfl fun b o hb e => (hs.2 b hb).trans e
      obtain ⟨o', e1, e2, e3⟩ := hit'
      exact W.but e1 fun u e => by rw [e3] at e; cases e
  | rng a c m =>
    induction m using Nat.casesOn with
    | zero =>
      obtain rfl := Option.some.inj h
      exact wpAny_pyNext_range_end hh hi (by simp) fun h' he => kn rfl _ (X.scratch W h0 (fun b o hb e => he b o hb e) s.toks) fun b o hb e => he b o hb e
    | succ m =>
      obtain rfl := Option.some.inj h
      refine wpAny_pyNext_range_item hi (by omega) fun h' hit' hs => ?_
      have X' := X.scratch W h0 (fun b o hb e => (hs.2 b hb).trans e) (s.toks + 1)
      refine ks _ _ rfl _ _ X' (.int _ _) (W.but hit' fun u e => nomatch e) ?_ rfl fun b o hb e => (hs.2 b hb).trans e
      have e : (((m + 1 : Nat) : Int) - 1) = (m : Nat) := by omega
      rw [e] at hit'
      exact hit'
  | byt b i =>
    obtain ⟨t, hit⟩ := hi
    obtain rfl := Option.some.inj h
    clear h
    cases q : b[i]? with
    | none =>
      refine KBw.next_end hh hit ?_ fun h' he => ?_
      · simpa using q
      · exact kn (by rw [q]; rfl) _ (X.scratch W h0 (fun b o hb e => he b o hb e) s.toks) fun b o hb e => he b o hb e
    | some x =>
      refine KBw.next_item hit (c := x) (by simpa using q) fun h' hit' hs => ?_
      have X' := X.scratch W h0 (fun b o hb e => (hs.2 b hb).trans e) (s.toks + 1)
      refine ks (.int x.toNat) (.byt b (i + 1)) (by rw [q]; rfl) _ _ X' (.int _ _) ?_ ⟨t, hit'⟩ rfl fun b o hb e => (hs.2 b hb).trans e
      obtain ⟨o', e1, e2, e3⟩ := hit'
      exact W.but e1 fun u e => by rw [e3] at e; cases e
  | enm => exact hi.elim

theorem own2 (X : At B env me lc st μ I s₀ μ₀ I₀ s) (o : Obj) (hf : o.isFreed = false) (hc : ∀ u, o.data ≠ .cell u) :
    At B env me lc st μ I s₀ μ₀ I₀ { s with heap := enumHeap s.heap o } ∧ Own B env me μ I (enumHeap s.heap o) s.heap.objs.size ∧ Own B env me μ I (enumHeap s.heap o) (s.heap.objs.size + 1) ∧ (enumHeap s.heap o).get? s.heap.objs.size = some o ∧
      IsEnum (enumHeap s.heap o) (s.heap.objs.size + 1) s.heap.objs.size 0 .none ∧ s₀.heap.get? s.heap.objs.size = none ∧ s₀.heap.get? (s.heap.objs.size + 1) = none := by
  have g1 : (enumHeap s.heap o).get? s.heap.objs.size = some o := Heap.get?_push_of_some _ (Heap.get?_push_size _ hf)
  have n2 : s.heap.get? (s.heap.objs.size + 1) = none := Heap.get?_none_of_le (Nat.le_succ _)
  exact ⟨X.grow (fun _ _ e => Heap.get?_push_of_some _ (Heap.get?_push_of_some _ e)) s.toks, Own.fresh X (fresh_size _) g1 hc, Own.fresh X n2 enum_made (fun u e => nomatch e), g1, enum_made, X.ext.old (fresh_size _), X.ext.old n2⟩

theorem sim_enum {v : MV} {it : It} {vv : Value} {Q : Value → Shared → Prop} (h : itOf v st = some it) (hr : isRng it = false) (hv : V I μ vv v) (X : At B env me lc st μ I s₀ μ₀ I₀ s)
    (k : ∀ ia s', At B env me lc st μ I s₀ μ₀ I₀ s' → ItX B env me μ I s'.heap ia (.enm 0 it) → ItNew s₀.heap s'.heap ia (.enm 0 it) → Q (.ref ia) s') : wpAny B.M A (call (.type "enumerate") [vv]) Q E s := by
  have ne : s.heap.objs.size + 1 ≠ s.heap.objs.size := Nat.succ_ne_self _
  induction v using MV.casesOn with
  | tup xs =>
    obtain rfl := Option.some.inj h
    obtain ⟨_, _, _, _, rfl, ma, ca, da, ra, za⟩ := hv.inv
    refine call_enumT (isTuple_of (X.good.imm _ ma) ca da) ?_
    obtain ⟨X', w1, w2, g1, ge, n1, n2⟩ := own2 X { cls := .type "tuple_iterator", data := .fields #[.ref _, .int 0 0] } rfl (fun u e => nomatch e)
    exact k _ _ X' ⟨_, _, ge, ne, w2, w1, ⟨_, _, _, _, ma, ca, da, ra, _, g1, rfl, rfl⟩, rfl, Nat.zero_le _⟩ ⟨_, _, ge, n2, n1⟩
  | lst xs =>
    obtain rfl := Option.some.inj h
    obtain ⟨_, _, _, _, rfl, ma, ca, da, ra, za⟩ := hv.inv
    refine call_enumL (isList_of (X.good.imm _ ma) ca da) ?_
    obtain ⟨X', w1, w2, g1, ge, n1, n2⟩ := own2 X { cls := .type "list_iterator", data := .fields #[.ref _, .int 0 0] } rfl (fun u e => nomatch e)
    exact k _ _ X' ⟨_, _, ge, ne, w2, w1, ⟨_, _, _, _, ma, ca, da, ra, _, g1, rfl, rfl⟩, rfl, Nat.zero_le _⟩ ⟨_, _, ge, n2, n1⟩
  | loc l =>
    obtain ⟨xs, hxs, g⟩ := bind_some h
    obtain rfl := Option.some.inj g
    exact Bool.noConfusion hr
  | rng a b c =>
    obtain ⟨hc, g⟩ := ifS h
    obtain rfl := Option.some.inj g
    exact Bool.noConfusion hr
  | bytes b =>
    obtain rfl := Option.some.inj h
    obtain ⟨t, rfl, hz⟩ := hv.inv
    refine call_enumB ?_
    obtain ⟨X', w1, w2, g1, ge, n1, n2⟩ := own2 X { cls := .type "bytes_iterator", data := .fields #[.bytes _ t, .int 0 0] } rfl (fun u e => nomatch e)
    exact k _ _ X' ⟨_, _, ge, ne, w2, w1, ⟨t, _, g1, rfl, rfl⟩, rfl, Nat.zero_le _⟩ ⟨_, _, ge, n2, n1⟩
  | _ => exact no_some h

/-- after the pair is handed out: what is left to do at the loop's head -/
theorem enum_out {t : Expr} (ht : isTupE t = true) {it' : It} {ia ja : Addr} {i : Nat} {xv : Value} {x : MV} {h' : Heap} {tk : Nat} {Q : Option Value → Shared → Prop} (X : At B env me lc st μ I s₀ μ₀ I₀ s)
    (w1 : Own B env me μ I s.heap ia) (w2 : Own B env me μ I s.heap ja) (n1 : s₀.heap.get? ia = none) (n2 : s₀.heap.get? ja = none) (hne : ia ≠ ja) (hV : V I μ xv x)
    (ho : IsEnumOut h' ia ja ((i : Int) + 1) xv s.heap.objs.size) (hi : ItH I μ h' ja it') (hat : it'.at (i + 1)) (hT : h'.get? s.heap.objs.size = some { cls := .type "tuple", data := .seq #[.int i tk, xv] })
    (hk : ∀ b o, b ≠ ia → b ≠ ja → s.heap.get? b = some o → h'.get? b = some o) (li : ∃ o, s.heap.get? ia = some o) (lj : ∃ o, s.heap.get? ja = some o)
    (ks : ∀ v s1, (∀ (Q' : Unit → Shared → Prop) (E' : Value → Shared → Prop), (∀ s' I', At B env me lc st μ I' s₀ μ₀ I₀ s' → Le μ I μ I' → V I' μ v (.tup [.int i, x]) → ItX B env me μ I' s'.heap ia (.enm (i + 1) it') → ItNew s₀.heap s'.heap ia (.enm (i + 1) it') → (isEnm (.enm (i + 1) it') = false → I' = I ∧ ∀ b o, b ≠ ia → s.heap.get? b = some o → s'.heap.get? b = some o) → Q' () s') →
      wpAny B.M A (letOwnedTupleGo t (.ref ia) v) Q' E' s1) → Q (some v) s1) : Q (some (.ref s.heap.objs.size)) { s with heap := h', toks := tk + 1 } := by
  refine ks _ _ fun Q' E' k' => ?_
  induction t using PySem.Expr.casesOn with
  | Tuple es c p =>
    refine wpAny_letOwnedTupleGo_enum ho fun h2 he2 hs2 => ?_
    have oT : (({ cls := .type "tuple", data := .seq #[.int i tk, xv] } : Obj)).isFreed = false := rfl
    obtain ⟨Xs, lI⟩ := X.start.pushI oT s.toks
    obtain ⟨X1, _⟩ := X.pushI oT s.toks
    obtain ⟨oi, li⟩ := li
    obtain ⟨oj, lj⟩ := lj
    obtain ⟨w1', _⟩ := w1.ext li Xs.ext
    obtain ⟨w2', _⟩ := w2.ext lj Xs.ext
    have nT : ∀ b, (∃ o, s.heap.get? b = some o) → b ≠ s.heap.objs.size := fun b ⟨o, e⟩ => Nat.ne_of_lt (Heap.lt_size e)
    have X2 := X1.change (h' := h2) (ds := [ia, ja]) (fun d hd => by
        rcases List.mem_cons.mp hd with rfl | hd
        · exact w1'
        · exact List.mem_singleton.mp hd ▸ w2') (fun d hd => by
        rcases List.mem_cons.mp hd with rfl | hd
        · exact n1
        · exact List.mem_singleton.mp hd ▸ n2) (fun b o hb e => by
        simp only [List.mem_cons, List.not_mem_nil, or_false, not_or] at hb
        refine (hs2.2 b hb.1).trans ?_
        by_cases q : b = s.heap.objs.size
        · subst q
          have := Heap.get?_push_size s.heap oT
          rw [this] at e; cases e
          exact hT
        · exact hk b o hb.1 hb.2 (by rw [Heap.get?_push_ne _ _ _ q] at e; exact e)) (tk + 1)
    have hx : (({ cls := .type "tuple", data := .seq #[.int i tk, xv] } : Obj)).data = .seq (List.toArray [Value.int i tk, xv]) 0 := rfl
    refine k' _ _ X2 lI (.tup (.head _) rfl hx (.cons (.int _ _) (.cons (lI.V hV) .nil)) (by simp)) ?_ ⟨ja, xv, he2, n1, n2⟩ (fun e => nomatch e)
    have hi2 : ItH I μ h2 ja it' := hi.ext .refl fun o e => (hs2.2 ja (Ne.symm hne)).trans e
    obtain ⟨oj', lj'⟩ := hi2.live
    refine ⟨ja, xv, he2, hne, ⟨w1'.m, w1'.i, w1'.t, w1'.o, w1'.b, fun u hu => ?_⟩, ⟨w2'.m, w2'.i, w2'.t, w2'.o, w2'.b, fun u hu => hi2.noCell u hu⟩, hi2.ext lI fun o e => e, hat⟩
    obtain ⟨o', e, hd⟩ := hu
    rw [he2] at e; cases e; cases hd
  | _ => cases ht

theorem letOwned_base {t : Expr} {it : It} {ia : Addr} {v : Value} {Q : Unit → Shared → Prop} (hi : ItH I μ s.heap ia it) (k : Q () s) : wpAny B.M A (letOwnedTupleGo t (.ref ia) v) Q E s := by
  have main : ∀ {T : String} {vs : Array Value} {o : Obj}, s.heap.get? ia = some o → o.cls = .type T → o.data = .fields vs → ["enumerate", "zip", "dict_itemiterator", "dict_reverseitemiterator", "odict_iterator", "itertools.zip_longest", "itertools.pairwise"].contains T = false →
      wpAny B.M A (letOwnedTupleGo t (.ref ia) v) Q E s := by
    intro T vs o ho hc hd hT
    cases t <;> first | exact wpAny_pure k | (cases v <;> first | exact wpAny_pure k | (refine wpAny_bind (wpAny_load ho ?_); rw [hc, hd]; simp only [hT, Bool.false_and, Bool.false_eq_true, if_false]; exact wpAny_pure k))
  induction it using It.casesOn with
  | tup => obtain ⟨_, _, _, _, _, _, _, _, o, e, hc, hd⟩ := hi; exact main e hc hd (by decide)
  | lst => obtain ⟨_, _, _, _, _, _, _, _, o, e, hc, hd⟩ := hi; exact main e hc hd (by decide)
  | loc => obtain ⟨_, _, o, e, hc, hd⟩ := hi; exact main e hc hd (by decide)
  | rng => exact main hi rfl rfl (by decide)
  | byt => obtain ⟨_, o, e, hc, hd⟩ := hi; exact main e hc hd (by decide)
  | enm => exact hi.elim

noncomputable abbrev Handed (s : Shared) (B : Base) (A : Around) (env : Env) (me : ME) (lc : Lc) (st : St) (μ : List Addr) (I : Led) (s₀ : Shared) (μ₀ : List Addr) (I₀ : Led) (t : Expr) (ia : Addr) (v : Value) (m : MV) (it' : It) (s1 : Shared) : Prop :=
  ∀ (Q' : Unit → Shared → Prop) (E' : Value → Shared → Prop), (∀ s' I', At B env me lc st μ I' s₀ μ₀ I₀ s' → Le μ I μ I' → V I' μ v m → ItX B env me μ I' s'.heap ia it' → ItNew s₀.heap s'.heap ia it' → (isEnm it' = false → I' = I ∧ ∀ b o, b ≠ ia → s.heap.get? b = some o → s'.heap.get? b = some o) → Q' () s') →
      wpAny B.M A (letOwnedTupleGo t (.ref ia) v) Q' E' s1

theorem enum_step {t : Expr} (ht : isTupE t = true) {ia ja : Addr} {i : Nat} {old : Value} {fp : List Addr} {n : Nat} {P : Nat → Value → Prop} {St : Nat → Heap → Prop} {r' : Option (MV × It)} {Q : Option Value → Shared → Prop}
    (D : Draws B.prog B.w A.in1 ja fp n P St) (hE : IsEnum s.heap ia ja i old) (hSt : St i s.heap) (hef : ia ∉ fp) (X : At B env me lc st μ I s₀ μ₀ I₀ s)
    (w1 : Own B env me μ I s.heap ia) (w2 : Own B env me μ I s.heap ja) (n1 : s₀.heap.get? ia = none) (n2 : s₀.heap.get? ja = none) (hne : ia ≠ ja) (lj : ∃ o, s.heap.get? ja = some o)
    (hn : r' = none → i = n) (hs : ∀ x it', r' = some (x, it') → i < n ∧ (∀ xv, P i xv → V I μ xv x) ∧ (∀ h', St (i + 1) h' → ItH I μ h' ja it') ∧ it'.at (i + 1))
    (kn : r' = none → ∀ s', At B env me lc st μ I s₀ μ₀ I₀ s' → Q none s')
    (ks : ∀ x it', r' = some (x, it') → ∀ v s', Handed s B A env me lc st μ I s₀ μ₀ I₀ t ia v (.tup [.int i, x]) (.enm (i + 1) it') s' → Q (some v) s') : wpAny B.M A (pyNext (.ref ia)) Q E s := by
  induction r' using Option.casesOn with
  | none =>
    obtain rfl := hn rfl
    exact wpAny_pyNext_enum_endD D hE hSt fun h' he => kn rfl _ (X.scratch w2 n2 (fun b o hb e => he b o hb e) s.toks)
  | some p =>
    obtain ⟨x, it'⟩ := p
    obtain ⟨h1, h2, h3, h4⟩ := hs x it' rfl
    refine wpAny_pyNext_enum_itemD D hE hSt h1 hne hef fun xv h' tk hP ho hst hT hsz hk => ?_
    exact enum_out ht X w1 w2 n1 n2 hne (h2 xv hP) ho (h3 h' hst) h4 hT hk ⟨_, hE⟩ lj (ks x it' rfl)

theorem enm_of {it : It} (h : isEnm it = true) : ∃ k it', it = .enm k it' := It.enm.elim (motive := fun it => ∃ k it', it = .enm k it') it (eq_of_beq h) fun k it' => ⟨k, it', rfl⟩
theorem ItX.base {h : Heap} {ia : Addr} {it : It} (hx : ItX B env me μ I h ia it) (hb : isEnm it = false) : Own B env me μ I h ia ∧ ItH I μ h ia it := by
  induction it using It.casesOn with
  | enm => exact Bool.noConfusion (show true = false from hb)
  | _ => exact hx
theorem ItX.ofBase {h : Heap} {ia : Addr} {it : It} (hb : isEnm it = false) (w : Own B env me μ I h ia) (hi : ItH I μ h ia it) : ItX B env me μ I h ia it := by
  induction it using It.casesOn with
  | enm => exact Bool.noConfusion (show true = false from hb)
  | _ => exact ⟨w, hi⟩
theorem ItNew.base {h₀ h : Heap} {ia : Addr} {it : It} (hb : isEnm it = false) (h0 : h₀.get? ia = none) : ItNew h₀ h ia it := by
  induction it using It.casesOn with
  | enm => exact Bool.noConfusion (show true = false from hb)
  | _ => exact h0
theorem ItNew.unbase {h₀ h : Heap} {ia : Addr} {it : It} (hb : isEnm it = false) (hn : ItNew h₀ h ia it) : h₀.get? ia = none := by
  induction it using It.casesOn with
  | enm => exact Bool.noConfusion (show true = false from hb)
  | _ => exact hn
theorem sim_next {t : Expr} {it : It} {ia : Addr} {r : Option (MV × It)} {Q : Option Value → Shared → Prop} (hh : A.handled = none) (ht : isEnm it = true → isTupE t = true) (h : nextM it st = some r) (X : At B env me lc st μ I s₀ μ₀ I₀ s) (hx : ItX B env me μ I s.heap ia it) (hn : ItNew s₀.heap s.heap ia it)
    (kn : r = none → ∀ s', At B env me lc st μ I s₀ μ₀ I₀ s' → (isEnm it = false → ∀ b o, b ≠ ia → s.heap.get? b = some o → s'.heap.get? b = some o) → Q none s')
    (ks : ∀ m it', r = some (m, it') → isEnm it' = isEnm it → ∀ v s', Handed s B A env me lc st μ I s₀ μ₀ I₀ t ia v m it' s' → Q (some v) s') : wpAny B.M A (pyNext (.ref ia)) Q E s := by
  by_cases he : isEnm it = true
  · have htt := ht he
    obtain ⟨k, it, rfl⟩ := enm_of he
    obtain ⟨ja, old, hE, hne, w1, w2, hi, hat⟩ := hx
    obtain ⟨ja', old', hE', n1, n2⟩ := hn
    have : ja' = ja := by
      have := hE.symm.trans hE'
      simp at this
      exact this.1.symm
    subst this
    simp only [nextM] at h
    obtain ⟨r', hr', rfl⟩ := map_some h
    have live := hi.live
    have kn' : r' = none → ∀ s', At B env me lc st μ I s₀ μ₀ I₀ s' → Q none s' := fun e s' X' => kn (by rw [e]; rfl) s' X' (fun e => nomatch e)
    have ks' : ∀ x it', r' = some (x, it') → ∀ v s', Handed s B A env me lc st μ I s₀ μ₀ I₀ t ia v (.tup [.int k, x]) (.enm (k + 1) it') s' → Q (some v) s' := fun x it' e => ks _ _ (by rw [e]; rfl) rfl
    induction it using It.casesOn with
    | tup xs i =>
      obtain ⟨rfl, hle⟩ := hat
      obtain ⟨a, o, vs, c, m, hc, hd, ra, hit⟩ := hi
      have L := isTuple_of (X.good.imm _ m) hc hd
      simp only [nextM, Option.some.injEq] at hr'
      subst hr'
      refine enum_step htt (draws_tuple (prog := B.prog) (w := B.w) (A := A.in1) hh ja' a (fun e => w2.i _ m e) vs.toArray) hE ⟨hit, L⟩ ?_ X w1 w2 n1 n2 hne live ?_ ?_ kn' ks'
      · simp only [List.mem_cons, List.not_mem_nil, or_false, not_or]
        exact ⟨hne, fun e => w1.i _ m e.symm⟩
      · intro e
        have : ¬ i < xs.length := fun e' => by rw [List.getElem?_eq_getElem e'] at e; cases e
        rw [List.size_toArray, ra.length]; omega
      · intro x it' e
        obtain ⟨y, hy, e⟩ := map_some e
        cases e
        have e1 := (List.getElem?_eq_some_iff.mp hy).1
        refine ⟨by rw [List.size_toArray, ra.length]; exact e1, fun xv hP => ?_, fun h' hst => ⟨a, o, vs, c, m, hc, hd, ra, hst.1⟩, rfl, e1⟩
        obtain ⟨v, hv, hV⟩ := ra.get hy
        have hP : vs.toArray[i]? = some xv := hP
        rw [List.getElem?_toArray, hv] at hP; cases hP; exact hV
    | lst xs i =>
      obtain ⟨rfl, hle⟩ := hat
      obtain ⟨a, o, vs, c, m, hc, hd, ra, hit⟩ := hi
      have L := isList_of (X.good.imm _ m) hc hd
      simp only [nextM, Option.some.injEq] at hr'
      subst hr'
      refine enum_step htt (Draws.list (prog := B.prog) (w := B.w) (A := A.in1) hh ja' a (fun e => w2.i _ m e) vs.toArray) hE ⟨hit, L⟩ ?_ X w1 w2 n1 n2 hne live ?_ ?_ kn' ks'
      · simp only [List.mem_cons, List.not_mem_nil, or_false, not_or]
        exact ⟨hne, fun e => w1.i _ m e.symm⟩
      · intro e
        have : ¬ i < xs.length := fun e' => by rw [List.getElem?_eq_getElem e'] at e; cases e
        rw [List.size_toArray, ra.length]; omega
      · intro x it' e
        obtain ⟨y, hy, e⟩ := map_some e
        cases e
        have e1 := (List.getElem?_eq_some_iff.mp hy).1
        refine ⟨by rw [List.size_toArray, ra.length]; exact e1, fun xv hP => ?_, fun h' hst => ⟨a, o, vs, c, m, hc, hd, ra, hst.1⟩, rfl, e1⟩
        obtain ⟨v, hv, hV⟩ := ra.get hy
        have hP : vs.toArray[i]? = some xv := hP
        rw [List.getElem?_toArray, hv] at hP; cases hP; exact hV
    | byt b i =>
      obtain ⟨rfl, hle⟩ := hat
      obtain ⟨tk, hit⟩ := hi
      simp only [nextM, Option.some.injEq] at hr'
      subst hr'
      refine enum_step htt (draws_bytes (prog := B.prog) (w := B.w) (A := A.in1) hh ja' b.toArray tk) hE hit ?_ X w1 w2 n1 n2 hne live ?_ ?_ kn' ks'
      · simp only [List.mem_cons, List.not_mem_nil, or_false]
        exact hne
      · intro e
        have : ¬ i < b.length := fun e' => by rw [List.getElem?_eq_getElem e'] at e; cases e
        rw [List.size_toArray]; omega
      · intro x it' e
        obtain ⟨y, hy, e⟩ := map_some e
        cases e
        have e1 := (List.getElem?_eq_some_iff.mp hy).1
        refine ⟨by rw [List.size_toArray]; exact e1, fun xv hP => ?_, fun h' hst => ⟨tk, hst⟩, rfl, e1⟩
        obtain ⟨c, u, hc, rfl⟩ := hP
        rw [List.getElem?_toArray, hy] at hc; cases hc
        exact .int _ _
    | loc l i => exact hat.elim
    | rng a c n => exact hat.elim
    | enm => exact hat.elim
  · have he' : isEnm it = false := by simpa using he
    have base := hx.base he'
    have b3 := ItNew.unbase he' hn
    refine sim_nextH hh h X base.1 base.2 b3 (fun e s' X' hk => kn e s' X' fun _ => hk) fun m it' e v s' X' hv w' hi' en hk => ks m it' e (by rw [en, he']) v s' fun Q' E' k' => ?_
    refine letOwned_base hi' (k' s' I X' .refl hv ?_ ?_ fun _ => ⟨rfl, hk⟩)
    · exact ItX.ofBase en w' hi'
    · exact ItNew.base en b3
end
end Mine
end
section
open PySem PySem.W PySem.Calls PyProof.Rows PySem.Spec
namespace Mine

section
variable (B : Base) (R : Rec) (n : Nat)
noncomputable def LoopS : Prop := ∀ {t : Expr} {it : It} {b : List Stmt} {me : ME} {lc lc' : Lc} {st : St} {f : MF} {st' : St}, R.loop t it b me lc st = some (f, lc', st') → ∀ {env : Env} {A : Around} {s s₀ : Shared} {μ₀ μ : List Addr} {I₀ I : Led} {ia : Addr} {Q : Result → Shared → Prop},
  Room A n → At B env me lc st μ I s₀ μ₀ I₀ s → ItX B env me μ I s.heap ia it → ItNew s₀.heap s.heap ia it → (∀ v s' μ' I', At B env me lc' st' μ' I' s₀ μ₀ I₀ s' → Le μ I μ' I' → VFl I' μ' v f → Q (.ok v) s') → codeAny B.M A (.forLoop t (.ref ia) b [] env) Q s
noncomputable def CompS : Prop := ∀ {elt t : Expr} {ifs : List Expr} {it : It} {acc : List MV} {me : ME} {lc : Lc} {st : St} {vs : List MV} {st' : St}, R.comp elt t ifs it acc me lc st = some (vs, st') → ∀ {env : Env} {A : Around} {s s₀ : Shared} {μ₀ μ : List Addr} {I₀ I : Led} {ia D : Addr} {ws : List Value} {c : Nat} {Q : Result → Shared → Prop} {iter : Expr} {scope : Scope} {pos : Pos},
  Room A n → At B env me lc st μ I s₀ μ₀ I₀ s → ItX B env me μ I s.heap ia it → ItNew s₀.heap s.heap ia it → Own B env me μ I s.heap D → s₀.heap.get? D = none → D ≠ ia → s.heap.get? D = some (listOf ws.toArray c) → VS I μ ws acc → acc.length ≤ 1048577 →
  (∀ lc' ws' c' s' μ' I', At B env me lc' st' μ' I' s₀ μ₀ I₀ s' → Le μ I μ' I' → Own B env me μ' I' s'.heap D → s'.heap.get? D = some (listOf (List.toArray ws') c') → VS I' μ' ws' vs → vs.length ≤ 1048577 → Q (.ok .next) s') →
  codeAny B.M A (.compLoop (.ListComp elt [⟨t, iter, ifs, 0⟩] scope pos) 0 (.ref ia) (.ref D) env) Q s
noncomputable def UseS : Prop := ∀ {e : Expr} {me : ME} {lc : Lc} {st : St} {mv : MV} {st1 : St}, isComp e = true → R.ev e me lc st = some (mv, st1) → ∀ {env : Env} {A : Around} {s s₀ : Shared} {μ₀ μ : List Addr} {I₀ I : Led} {u : Value → Sem Unit} {Q : Unit → Shared → Prop} {E : Value → Shared → Prop} {lc' : Lc} {st' : St},
  Room A n → At B env me lc st μ I s₀ μ₀ I₀ s →
  (∀ v s' μ' I', At B env me lc st1 μ' I' s' μ' I' s' → Le μ I μ' I' → V I' μ' v mv → wpAny B.M A (u v) (fun _ s'' => ∃ μ'' I'', At B env me lc' st' μ'' I'' s' μ' I' s'' ∧ Le μ' I' μ'' I'') E s') →
  (∀ s' μ' I', At B env me lc' st' μ' I' s₀ μ₀ I₀ s' → Le μ I μ' I' → Q () s') → wpAny B.M A (evalThenUse e env u) Q E s
end

section
variable {B : Base} {R : Rec} {n : Nat} {K : Frag} {env : Env} {me : ME} {lc lc' : Lc} {st st' : St} {μ μ' μ₀ : List Addr} {I I' I₀ : Led} {s s' s₀ : Shared} {A : Around} {E : Value → Shared → Prop}

theorem forTurn_step {Q : Result → Shared → Prop} {t : Expr} {it : Value} {b : List Stmt}
    (h : wpAny B.M A (pyNext it) (fun r s₁ => match r with
      | none => Q (.ok .next) s₁
      | some v => wpAny B.M A (letOwnedTupleGo t it v) (fun _ s₁' =>
          wpAny B.M A (assign t env v) (fun _ s₂ => wpAny B.M A (execs b env) (fun f s₃ => match f with
            | .next | .cont => codeAny B.M A (.forLoop t it b [] env) Q s₃
            | .brk => Q (.ok .next) s₃
            | .ret v => Q (.ok (.ret v)) s₃) (notedBy B.M A env fun e s' => Q (.error e) s') s₂) (notedBy B.M A env fun e s' => Q (.error e) s') s₁') (notedBy B.M A env fun e s' => Q (.error e) s') s₁) (notedBy B.M A env fun e s' => Q (.error e) s') s) :
    codeAny B.M A (.forLoop t it b [] env) Q s := by
  refine codeAny_of_tree ?_
  show wpAny _ A ((forTurn t it b [] env).onRaise (fun x => do noteFrame x env; theTreesLotGoes x)) _ _ s
  refine wpAny_noted ?_
  simp only [forTurn]
  refine wpAny_bind (wpAny_standAt (wpAny_bind (wpAny_onRaise (wpAny_mono h (fun r s₁ h₁ => ?_) fun _ _ h' => wpAny_standAt h'))))
  induction r using Option.casesOn with
  | none => exact wpAny_pure ⟨rfl, codeAny_block (wpAny_execs_nil h₁)⟩
  | some v =>
    refine wpAny_bind (wpAny_mono h₁ (fun _ s₁' h₁' => ?_) fun _ _ h' => h')
    refine wpAny_bind (wpAny_mono h₁' (fun _ s₂ h₂ => wpAny_bind (wpAny_mono h₂ (fun f s₃ h₃ => ?_) fun _ _ h' => h')) fun _ _ h' => h')
    induction f using PySem.Flow.casesOn with
    | next => exact wpAny_pure ⟨rfl, h₃⟩
    | cont => exact wpAny_pure ⟨rfl, h₃⟩
    | brk => exact wpAny_pure h₃
    | ret v => exact wpAny_pure h₃

theorem whileTurn_step {Q : Result → Shared → Prop} {t : Expr} {b : List Stmt}
    (h : wpAny B.M A (isTrue t env (eval t env)) (fun c s₁ => if c then wpAny B.M A (execs b env) (fun f s₃ => match f with
            | .next | .cont => codeAny B.M A (.whileLoop t b [] env) Q s₃
            | .brk => Q (.ok .next) s₃
            | .ret v => Q (.ok (.ret v)) s₃) (notedBy B.M A env fun e s' => Q (.error e) s') s₁ else Q (.ok .next) s₁) (notedBy B.M A env fun e s' => Q (.error e) s') s) :
    codeAny B.M A (.whileLoop t b [] env) Q s := by
  refine codeAny_of_tree ?_
  show wpAny _ A ((whileTurn t b [] env).onRaise (fun x => do noteFrame x env; theTreesLotGoes x)) _ _ s
  refine wpAny_noted ?_
  simp only [whileTurn]
  refine wpAny_bind (wpAny_mono h (fun c s₁ h₁ => ?_) fun _ _ h' => h')
  induction c using Bool.casesOn with
  | false => exact wpAny_bind (wpAny_execs_nil (wpAny_pure h₁))
  | true =>
    refine wpAny_bind (wpAny_mono h₁ (fun f s₃ h₃ => ?_) fun _ _ h' => h')
    induction f using PySem.Flow.casesOn with
    | next => exact wpAny_pure ⟨rfl, h₃⟩
    | cont => exact wpAny_pure ⟨rfl, h₃⟩
    | brk => exact wpAny_pure h₃
    | ret v => exact wpAny_pure h₃

theorem compTurn_step {Q : Result → Shared → Prop} {elt t iter : Expr} {ifs : List Expr} {scope : Scope} {pos : Pos} {it acc : Value}
    (h : wpAny B.M A (pyNext it) (fun r s₁ => match r with
      | none => Q (.ok .next) s₁
      | some v => wpAny B.M A (letOwnedTupleGo t it v) (fun _ s₁' => wpAny B.M A (assign t env v) (fun _ s₂ =>
          wpAny B.M A (forIn ifs true fun c r => if r = true then do let ok ← isTrue c env (eval c env); pure (ForInStep.yield ok) else pure (ForInStep.yield r)) (fun ok s₃ =>
            if ok = true then wpAny B.M A (eval elt env) (fun x s₄ =>
              wpAny B.M A (call (.builtin "list.append") [acc, x]) (fun _ s₅ => codeAny B.M A (.compLoop (.ListComp elt [⟨t, iter, ifs, 0⟩] scope pos) 0 it acc env) Q s₅) (notedBy B.M A env fun e s' => Q (.error e) s') s₄) (notedBy B.M A env fun e s' => Q (.error e) s') s₃
            else codeAny B.M A (.compLoop (.ListComp elt [⟨t, iter, ifs, 0⟩] scope pos) 0 it acc env) Q s₃) (notedBy B.M A env fun e s' => Q (.error e) s') s₂) (notedBy B.M A env fun e s' => Q (.error e) s') s₁') (notedBy B.M A env fun e s' => Q (.error e) s') s₁) (notedBy B.M A env fun e s' => Q (.error e) s') s) :
    codeAny B.M A (.compLoop (.ListComp elt [⟨t, iter, ifs, 0⟩] scope pos) 0 it acc env) Q s := by
  refine codeAny_of_tree ?_
  show wpAny _ A ((compTurn (.ListComp elt [⟨t, iter, ifs, 0⟩] scope pos) 0 it acc env).onRaise (fun x => do noteFrame x env; theTreesLotGoes x)) _ _ s
  refine wpAny_noted ?_
  rw [compTurn_list]
  refine wpAny_bind (wpAny_standAt (wpAny_bind (wpAny_mono h (fun r s₁ h₁ => ?_) fun _ _ h' => h')))
  induction r using Option.casesOn with
  | none => exact wpAny_pure h₁
  | some v =>
    refine wpAny_bind (wpAny_mono h₁ (fun _ s₁' h₁' => ?_) fun _ _ h' => h')
    refine wpAny_bind (wpAny_mono h₁' (fun _ s₂ h₂ => wpAny_bind (wpAny_mono h₂ (fun ok s₃ h₃ => ?_) fun _ _ h' => h')) fun _ _ h' => h')
    induction ok using Bool.casesOn with
    | false => exact wpAny_pure ⟨rfl, h₃⟩
    | true =>
      exact wpAny_bind (wpAny_bind (wpAny_mono h₃ (fun x s₄ h₄ => wpAny_bind (wpAny_mono h₄ (fun _ s₅ h₅ => wpAny_pure (wpAny_pure ⟨rfl, h₅⟩)) fun _ _ h' => h')) fun _ _ h' => h'))

theorem names_of : ∀ {ts : List Expr} {vs : List MV} {lc lc' : Lc}, assignNames me ts vs lc = some lc' → (∀ t ∈ ts, isName t = true) ∧ ts.length = vs.length := by
  intro ts
  induction ts with
  | nil =>
    intro vs lc lc' h
    rcases assignNames_inv h with ⟨_, rfl, _⟩ | ⟨_, _, _, _, _, _, e, _⟩
    · exact ⟨(fun _ h => nomatch h), rfl⟩
    · cases e
  | cons t ts ih =>
    intro vs lc lc' h
    rcases assignNames_inv h with ⟨e, _⟩ | ⟨x, p, ts', v, vs', lc1, e, rfl, h1, h2⟩
    · cases e
    · cases e
      obtain ⟨a, b⟩ := ih h2
      exact ⟨fun t ht => by
        rcases List.mem_cons.mp ht with rfl | ht
        · rfl
        · exact a t ht, by rw [List.length_cons, List.length_cons, b]⟩

theorem sim_names {Q : Unit → Shared → Prop} : ∀ {ts : List Expr} {vs : List MV} {ws : List Value} {lc lc' : Lc} {s : Shared}, assignNames me ts vs lc = some lc' → VS I μ ws vs → At B env me lc st μ I s₀ μ₀ I₀ s →
    (∀ s', At B env me lc' st μ I s₀ μ₀ I₀ s' → Q () s') → wpAny B.M A (assignInOrder ((assignEach ts env).map (·.2)) ws) Q E s := by
  intro ts
  induction ts with
  | nil =>
    intro vs ws lc lc' s h hv X k
    rcases assignNames_inv h with ⟨_, rfl, rfl⟩ | ⟨_, _, _, _, _, _, e, _⟩
    · obtain rfl := hv.inv
      exact wpAny_pure (k s X)
    · cases e
  | cons t ts ih =>
    intro vs ws lc lc' s h hv X k
    rcases assignNames_inv h with ⟨e, _⟩ | ⟨x, p, ts', v, vs', lc1, e, rfl, h1, h⟩
    · cases e
    · cases e
      obtain ⟨_, _, rfl, hv, hvs⟩ := hv.inv
      show wpAny _ _ (do holding _ (assign (.Name x p) env _); assignInOrder ((assignEach ts env).map (·.2)) _) _ _ _
      exact wpAny_bind (wpAny_holding (wpAny_assign_Name (sim_setName h1 hv X fun s1 X1 => ih h hvs X1 k)))

theorem each_names : ∀ {ts : List Expr}, (∀ t ∈ ts, isName t = true) → (assignEach ts env).length = ts.length ∧ (assignEach ts env).findIdx? (·.1) = none
  | [], _ => ⟨rfl, rfl⟩
  | t :: ts, h => by
    have ht := h t (.head _)
    obtain ⟨x, p, rfl⟩ := name_of ht
    obtain ⟨a, b⟩ := each_names (ts := ts) fun t ht => h t (.tail _ ht)
    show ((false, assign (.Name x p) env) :: assignEach ts env).length = _ ∧ ((false, assign (.Name x p) env) :: assignEach ts env).findIdx? (·.1) = none
    refine ⟨by simp [a], ?_⟩
    rw [List.findIdx?_cons, b]
    rfl

theorem At.iterGone {h' : Heap} (X : At B env me lc st μ I s₀ μ₀ I₀ s) (hs : Heap.ExtBut s.heap.objs.size s.heap h') (tk : Nat) : At B env me lc st μ I s₀ μ₀ I₀ { s with heap := h', toks := tk } :=
  X.grow (fun b o e => hs b o (Nat.ne_of_lt (Heap.lt_size e)) e) tk

theorem sim_assign {P : MP} (hP : P = B.P) (ok : ClsOk B K) (ev : EvS B R n) (hR : Room A n) {t : Expr} {m : MV} {v : Value} {Q : Unit → Shared → Prop} (h : assignF P R t m me lc st = some (lc', st')) (hv : V I μ v m) (X : At B env me lc st μ I s₀ μ₀ I₀ s)
    (k : ∀ s' μ' I', At B env me lc' st' μ' I' s₀ μ₀ I₀ s' → Le μ I μ' I' → Q () s') : wpAny B.M A (assign t env v) Q E s := by
  subst hP
  induction t using PySem.Expr.casesOn with
  | Name x p =>
    obtain ⟨lc1, h1, e⟩ := map_some (show (setName me lc x m).map _ = _ from h); clear h
    cases e
    exact wpAny_assign_Name (sim_setName h1 hv X fun s1 X1 => k s1 μ I X1 .refl)
  | Tuple ts c p =>
    obtain ⟨vs, h0, g⟩ := bind_some (show (asTupM m).bind _ = _ from h); clear h
    obtain rfl := asTupM_eq h0; clear h0
    obtain ⟨lc1, h1, e⟩ := map_some g; clear g
    cases e
    obtain ⟨n1, n2⟩ := names_of h1
    obtain ⟨e1, e2⟩ := each_names (env := env) n1
    obtain ⟨_, _, _, _, rfl, ma, ca, da, ra, za⟩ := hv.inv
    refine wpAny_assign_Tuple hR.hh (isTuple_of (X.good.imm _ ma) ca da) (by rw [e1, n2, List.size_toArray, ra.length]) e2 fun h' hs => ?_
    exact sim_names h1 ra (X.iterGone hs s.toks) fun s' X' => k s' μ I X' .refl
  | Subscript o i p =>
    have h : (if isSlice i then Option.none else (R.ev o me lc st).bind fun x => (R.ev i me lc x.2).bind fun y => (setItemM x.1 y.1 m y.2).map fun st => (lc, st)) = some (lc', st') := h
    split at h
    · exact no_some h
    · refine bindE (h) fun o st1 h1 g => ?_
      refine bindE (g) fun i st2 h2 g2 => ?_
      obtain ⟨st3, h3, e⟩ := map_some g2; clear g2
      cases e
      rw [arm_assign_Subscript]
      refine wpAny_bind (wpAny_holding (ev h1 hR X fun vo s1 μ1 I1 X1 l1 ho => wpAny_bind (wpAny_holding (ev h2 hR X1 fun vi s2 μ2 I2 X2 l2 hi => ?_))))
      exact wpAny_bind (wpAny_standAt (wpAny_bind (wpAny_holding (sim_setItem h3 (l2.V ho) hi (l2.V (l1.V hv)) X2 fun s3 X3 => wpAny_release (k s3 μ2 I2 X3 (l1.trans l2))))))
  | Attribute o a p =>
    have h : (if !isName o then Option.none else (R.ev o me lc st).bind fun x => (setAttrM B.P x.1 a m x.2).map fun st => (lc, st)) = some (lc', st') := h
    split at h
    · exact no_some h
    · rename_i hn
      refine bindE (h) fun o' st1 h1 g => ?_
      obtain ⟨st3, h3, e⟩ := map_some g; clear g
      cases e
      obtain ⟨x, q, rfl⟩ := name_of (by simpa using hn)
      rw [arm_assign_Attribute]
      refine wpAny_bind (wpAny_holding (ev h1 hR X fun vo s1 μ1 I1 X1 l1 ho => ?_))
      exact wpAny_bind (wpAny_standAt (wpAny_bind (wpAny_holding (sim_setAttr ok h3 ho (l1.V hv) X1 fun s3 X3 => wpAny_release (k s3 μ1 I1 X3 l1)))))
  | _ => exact no_some h
end
end Mine
end
section
open PySem PySem.W PySem.Calls PyProof.Rows PySem.Spec
namespace Mine

section
variable {B : Base} {R : Rec} {n : Nat} {K : Frag} {env : Env} {me : ME} {lc lc' : Lc} {st st' : St} {μ μ' μ₀ : List Addr} {I I' I₀ : Led} {s s' s₀ : Shared} {A : Around} {E : Value → Shared → Prop}

theorem sim_exs (ex : ExS B R n) (hR : Room A n) {Q : Flow → Shared → Prop} : ∀ {cs : List Stmt} {lc lc' : Lc} {st st' : St} {f : MF} {s : Shared} {μ : List Addr} {I : Led}, exs R cs me lc st = some (f, lc', st') → At B env me lc st μ I s₀ μ₀ I₀ s →
    (∀ v s' μ' I', At B env me lc' st' μ' I' s₀ μ₀ I₀ s' → Le μ I μ' I' → VFl I' μ' v f → Q v s') → wpAny B.M A (execs cs env) Q E s
  | [], lc, lc', st, st', f, s, μ, I, h, X, k => by
    obtain ⟨rfl, rfl, rfl⟩ := some3 (show some (MF.next, lc, st) = some (f, lc', st') from h)
    exact wpAny_execs_nil (k _ s μ I X .refl .next)
  | c :: cs, lc, lc', st, st', f, s, μ, I, h, X, k => by
    rw [exs_step] at h
    refine bindE3 (h) fun g lc1 st1 h1 h => ?_
    refine wpAny_execs_cons (ex h1 hR X fun v s1 μ1 I1 X1 l1 hv => ?_)
    cases hv with
    | next => exact sim_exs ex hR h X1 fun v s' μ' I' X' l' hv => k v s' μ' I' X' (l1.trans l') hv
    | brk =>
      simp only [Option.some.injEq, Prod.mk.injEq] at h
      obtain ⟨rfl, rfl, rfl⟩ := h
      exact k _ s1 μ1 I1 X1 l1 .brk
    | cont =>
      simp only [Option.some.injEq, Prod.mk.injEq] at h
      obtain ⟨rfl, rfl, rfl⟩ := h
      exact k _ s1 μ1 I1 X1 l1 .cont
    | ret hv =>
      simp only [Option.some.injEq, Prod.mk.injEq] at h
      obtain ⟨rfl, rfl, rfl⟩ := h
      exact k _ s1 μ1 I1 X1 l1 (.ret hv)

theorem step_whil {P : MP} (tr : TrS B R n) (ex : ExS B R n) (wh : WhilS B R n) : WhilS B (stepR P R) (n + 1) := by
  intro t b me lc lc' st f st' h env A s s₀ μ₀ μ I₀ I Q hR X k
  have hR := hR.pred
  change whilF R t b me lc st = some (f, lc', st') at h
  unfold whilF at h
  refine bindE (h) fun c st1 h1 h => ?_
  refine whileTurn_step (tr h1 hR X fun s1 μ1 I1 X1 l1 => ?_)
  induction c using Bool.casesOn with
  | false =>
    simp only [Bool.false_eq_true, if_false, Option.some.injEq, Prod.mk.injEq] at h
    obtain ⟨rfl, rfl, rfl⟩ := h
    exact k _ s1 μ1 I1 X1 l1 .next
  | true =>
    simp only [if_true] at h
    refine bindE3 (h) fun g lc1 st2 h2 h => ?_
    refine sim_exs ex hR h2 X1 fun v s2 μ2 I2 X2 l2 hv => ?_
    cases hv with
    | next => exact wh h hR X2 fun v s' μ' I' X' l' hv => k v s' μ' I' X' (l1.trans (l2.trans l')) hv
    | cont => exact wh h hR X2 fun v s' μ' I' X' l' hv => k v s' μ' I' X' (l1.trans (l2.trans l')) hv
    | brk =>
      simp only [Option.some.injEq, Prod.mk.injEq] at h
      obtain ⟨rfl, rfl, rfl⟩ := h
      exact k _ s2 μ2 I2 X2 (l1.trans l2) .next
    | ret hv =>
      simp only [Option.some.injEq, Prod.mk.injEq] at h
      obtain ⟨rfl, rfl, rfl⟩ := h
      exact k _ s2 μ2 I2 X2 (l1.trans l2) (.ret hv)

theorem ItNew.ext {h₀ h h' : Heap} {ia : Addr} {it : It} (hn : ItNew h₀ h ia it) (x : Ext B (ownOf env me) μ I h μ' I' h') (w : ItX B env me μ I h ia it) : ItNew h₀ h' ia it := by
  induction it using It.casesOn with
  | enm k it =>
    obtain ⟨ja, old, he, n1, n2⟩ := hn
    obtain ⟨ja', old', he', hne, w1, w2, hi, hat⟩ := w
    exact ⟨ja, old, (w1.ext he x).2, n1, n2⟩
  | _ => exact hn

theorem step_loop (ok : ClsOk B K) (ev : EvS B R n) (ex : ExS B R n) (lp : LoopS B R n) : LoopS B (stepR B.P R) (n + 1) := by
  intro t it b me lc lc' st f st' h env A s s₀ μ₀ μ I₀ I ia Q hR X hx hn k
  have hR := hR.pred
  change loopF B.P R t it b me lc st = some (f, lc', st') at h
  unfold loopF at h
  split at h
  · cases h
  · rename_i hc
    obtain ⟨r, h1, h⟩ := bind_some h
    refine forTurn_step (sim_next (t := t) hR.hh (fun e => ?_) h1 X hx hn (fun e s1 X1 _ => ?_) fun m it' e en v s1 hd => ?_)
    · simp only [e, Bool.true_and, Bool.not_eq_true, Bool.not_eq_eq_eq_not, Bool.not_true, Bool.not_false] at hc
      simpa using hc
    · subst e
      simp only [Option.some.injEq, Prod.mk.injEq] at h
      obtain ⟨rfl, rfl, rfl⟩ := h
      exact k _ s1 μ I X1 .refl .next
    · subst e
      dsimp only at h
      refine bindE (h) fun lc1 st1 h2 h => ?_
      refine bindE3 (h) fun g lc2 st2 h3 h => ?_
      refine hd _ _ fun s2 I2 X2 l2 hv hx2 hn2 _ => ?_
      refine sim_assign rfl ok ev hR h2 hv X2.start fun s3 μ3 I3 X3 l3 => ?_
      have hx3 := hx2.ext X3.ext
      have hn3 := hn2.ext X3.ext hx2
      refine sim_exs ex hR h3 X3.start fun v s4 μ4 I4 X4 l4 hv => ?_
      have hx4 := hx3.ext X4.ext
      have hn4 := hn3.ext X4.ext hx3
      have X5 := (X2.trans X3).trans X4
      have l5 := l2.trans (l3.trans l4)
      cases hv with
      | next => exact lp h hR X5 hx4 hn4 fun v s' μ' I' X' l' hv => k v s' μ' I' X' (l5.trans l') hv
      | cont => exact lp h hR X5 hx4 hn4 fun v s' μ' I' X' l' hv => k v s' μ' I' X' (l5.trans l') hv
      | brk =>
        simp only [Option.some.injEq, Prod.mk.injEq] at h
        obtain ⟨rfl, rfl, rfl⟩ := h
        exact k _ s4 μ4 I4 X5 l5 .next
      | ret hv =>
        simp only [Option.some.injEq, Prod.mk.injEq] at h
        obtain ⟨rfl, rfl, rfl⟩ := h
        exact k _ s4 μ4 I4 X5 l5 (.ret hv)

theorem sim_tests (tr : TrS B R n) (hR : Room A n) {Q : Bool → Shared → Prop} : ∀ {ifs : List Expr} {st st' : St} {b : Bool} {s : Shared} {μ : List Addr} {I : Led}, tests R ifs me lc st = some (b, st') → At B env me lc st μ I s₀ μ₀ I₀ s →
    (∀ s' μ' I', At B env me lc st' μ' I' s₀ μ₀ I₀ s' → Le μ I μ' I' → Q b s') →
    wpAny B.M A (forIn ifs true fun c r => if r = true then do let ok ← isTrue c env (eval c env); pure (ForInStep.yield ok) else pure (ForInStep.yield r)) Q E s := by
  have off : ∀ (ifs : List Expr) (s : Shared) (Q : Bool → Shared → Prop), Q false s → wpAny B.M A (forIn ifs false fun c r => if r = true then do let ok ← isTrue c env (eval c env); pure (ForInStep.yield ok) else pure (ForInStep.yield r)) Q E s := by
    intro ifs
    induction ifs with
    | nil => intro s Q h; rw [List.forIn_nil]; exact wpAny_pure h
    | cons e r ih =>
      intro s Q h
      rw [List.forIn_cons]
      simp only [Bool.false_eq_true, if_false]
      exact wpAny_bind (wpAny_pure (ih s Q h))
  intro ifs
  induction ifs with
  | nil =>
    intro st st' b s μ I h X k
    obtain ⟨rfl, rfl⟩ := some2 (show some (true, st) = some (b, st') from h)
    rw [List.forIn_nil]
    exact wpAny_pure (k s μ I X .refl)
  | cons e r ih =>
    intro st st' b s μ I h X k
    rw [tests_step] at h
    refine bindE (h) fun c st1 h1 h => ?_
    rw [List.forIn_cons]
    simp only [if_true]
    refine wpAny_bind (wpAny_bind (tr h1 hR X fun s1 μ1 I1 X1 l1 => wpAny_pure ?_))
    induction c using Bool.casesOn with
    | true => exact ih h X1 fun s' μ' I' X' l' => k s' μ' I' X' (l1.trans l')
    | false =>
      simp only [Bool.false_eq_true, if_false, Option.some.injEq, Prod.mk.injEq] at h
      obtain ⟨rfl, rfl⟩ := h
      exact off r s1 _ (k s1 μ1 I1 X1 l1)


theorem step_comp (ok : ClsOk B K) (ev : EvS B R n) (tr : TrS B R n) (cp : CompS B R n) : CompS B (stepR B.P R) (n + 1) := by
  intro elt t ifs it acc me lc st vs st' h env A s s₀ μ₀ μ I₀ I ia D ws c Q iter scope pos hR X hx hn W h0 hD hl ra hz k
  have hR := hR.pred
  change compF B.P R elt t ifs it acc me lc st = some (vs, st') at h
  unfold compF at h
  split at h
  · cases h
  · rename_i hc
    have hb : isEnm it = false := by simpa using hc
    obtain ⟨r, h1, h⟩ := bind_some h
    refine compTurn_step (sim_next (t := t) hR.hh (fun e => by rw [hb] at e; cases e) h1 X hx hn (fun e s1 X1 hk => ?_) fun m it' e en v s1 hd => ?_)
    · subst e
      obtain ⟨rfl, rfl⟩ := some2 h
      have hl' := hk hb D _ hD hl
      exact k lc ws c s1 μ I X1 .refl (W.but hl' fun u e => nomatch e) hl' ra hz
    · subst e
      dsimp only at h
      refine bindE (h) fun lc1 st1 h2 h => ?_
      refine bindE (h) fun okb st2 h3 h => ?_
      refine hd _ _ fun s2 I2 X2 l2 hv hx2 hn2 hk => ?_
      obtain ⟨eI, hk2⟩ := hk (by rw [en, hb])
      subst eI
      have hl2 := hk2 D _ hD hl
      have W2 : Own B env me μ I2 s2.heap D := W.but hl2 fun u e => nomatch e
      refine sim_assign rfl ok ev hR h2 hv X2.start fun s3 μ3 I3 X3 l3 => ?_
      have hx3 := hx2.ext X3.ext
      have hn3 := hn2.ext X3.ext hx2
      obtain ⟨W3, hl3⟩ := W2.ext hl2 X3.ext
      refine sim_tests tr hR h3 X3.start fun s4 μ4 I4 X4 l4 => ?_
      have hx4 := hx3.ext X4.ext
      have hn4 := hn3.ext X4.ext hx3
      obtain ⟨W4, hl4⟩ := W3.ext hl3 X4.ext
      induction okb using Bool.casesOn with
      | false =>
        simp only [Bool.false_eq_true, if_false] at h ⊢
        refine cp h hR ((X2.trans X3).trans X4) hx4 hn4 W4 h0 hD hl4 (l4.VS (l3.VS (l2.VS ra))) hz fun lc' ws' c' s' μ' I' X' l' => k lc' ws' c' s' μ' I' X' (l2.trans (l3.trans (l4.trans l')))
      | true =>
        simp only [if_true] at h ⊢
        split at h
        · rename_i hz2
          refine bindE (h) fun mv st3 h4 h => ?_
          refine ev h4 hR X4.start fun v5 s5 μ5 I5 X5 l5 hv5 => ?_
          have hx5 := hx4.ext X5.ext
          have hn5 := hn4.ext X5.ext hx4
          obtain ⟨W5, hl5⟩ := W4.ext hl4 X5.ext
          have X6 := ((X2.trans X3).trans X4).trans X5
          have ra5 := l5.VS (l4.VS (l3.VS (l2.VS ra)))
          refine append_at hl5 (fun h' hs hg => ?_) (by rw [List.size_toArray, ra5.length, sizeLine_eq]; omega)
          have X7 := X6.scratch W5 h0 (fun b o hb e => (hs.2 b hb).trans e) s5.toks
          rw [List.push_toArray] at hg
          have W7 : Own B env me μ5 I5 h' D := W5.but hg fun u e => nomatch e
          have hb5 := (hx5.base (by rw [en, hb]))
          have hx7 : ItX B env me μ5 I5 h' ia it' := by
            have keep : ∀ o, s5.heap.get? ia = some o → h'.get? ia = some o := fun o e => (hs.2 ia (Ne.symm hD)).trans e
            have hi7 := hb5.2.ext .refl keep
            have w7 : Own B env me μ5 I5 h' ia := ⟨hb5.1.m, hb5.1.i, hb5.1.t, hb5.1.o, hb5.1.b, hi7.noCell⟩
            have eb : isEnm it' = false := by rw [en, hb]
            exact ItX.ofBase eb w7 hi7
          have eb : isEnm it' = false := by rw [en, hb]
          have hn7 : ItNew s₀.heap h' ia it' := ItNew.base eb (ItNew.unbase eb hn5)
          refine cp h hR X7 hx7 hn7 W7 h0 hD hg (ra5.append (.cons hv5 .nil)) (by rw [List.length_append]; simp only [List.length_cons, List.length_nil]; omega) fun lc' ws' c' s' μ' I' X' l' => k lc' ws' c' s' μ' I' X' (l2.trans (l3.trans (l4.trans (l5.trans l'))))
        · cases h
end
end Mine
end
section
open PySem PySem.W PySem.Calls PyProof.Rows PySem.Spec
namespace Mine

section
variable {B : Base} {R : Rec} {n : Nat} {K : Frag} {env : Env} {me : ME} {lc lc' : Lc} {st st' : St} {μ μ' μ₀ : List Addr} {I I' I₀ : Led} {s s' s₀ : Shared} {A : Around} {E : Value → Shared → Prop}

/-- a new frame, whose own objects are new -/
theorem FrOk.fresh {h h' : Heap} (G : GoodH B μ I st h) (hk : ∀ b o, h.get? b = some o → h'.get? b = some o) (fr : ∀ a ∈ ownOf env me, h.get? a = none)
    (sc : env.scope = me.scope) (kf : me.scope.kind = .function) (nd : me.kind "__debug__" = none) (nc : me.kind "__classdict__" = none) (gl : env.globals = mainGlobals) (bu : env.builtins = builtinsNs) (ab : B.hb.objs.size ≤ env.locals)
    (ns : ∃ m, h'.Ns env.locals m ∧ ∀ x mv, me.kind x = some .local → lc x = some mv → ∃ v, m x = some v ∧ V I μ v mv)
    (lk : ∀ x, me.kind x = some .cell ∨ me.kind x = some .free → (env.cells.lookup x).isSome = true)
    (cel : ∀ x, me.own x = true → me.kind x = some .cell ∧ ∃ c u, env.cells.lookup x = some c ∧ h'.IsCell c u ∧ ∀ mv, lc x = some mv → ∃ v, u = some v ∧ V I μ v mv)
    (apart : ∀ x y c, me.own x = true → me.own y = true → env.cells.lookup x = some c → env.cells.lookup y = some c → x = y)
    (fre : ∀ x mv, me.fre x = some mv → me.own x = false ∧ ∃ c v, env.cells.lookup x = some c ∧ h.IsCell c (some v) ∧ V I μ v mv)
    (nl : ∀ x c, me.own x = true → env.cells.lookup x = some c → c ≠ env.locals) (live : ∀ a ∈ ownOf env me, ∃ o, h'.get? a = some o)
    (lam : me.lam = true → env.code = .ref B.tabC ∧ env.qual ++ "<lambda>" = lamQual ∧ ∀ x mv, me.fre x = some mv → ∃ c o v, env.cells.lookup x = some c ∧ (c, o) ∈ I ∧ o.data = .cell (some v) ∧ V I μ v mv) : FrOk B env me lc μ I h' := by
  have dead : ∀ {a b : Addr} {o}, a ∈ ownOf env me → h.get? b = some o → b ≠ a := fun ha e q => by rw [q, fr _ ha] at e; cases e
  refine ⟨sc, kf, nd, nc, gl, bu, ab, ns, lk, cel, apart, fun x mv hx => ?_, nl, fun a ha hm => ?_, fun a ha p hp => dead ha (G.imm p hp), fun hm => ?_, fun a ha => ?_, live, lam⟩
  · obtain ⟨h0, c, v, h1, h2, h3⟩ := fre x mv hx
    obtain ⟨o, ho, hd⟩ := h2
    exact ⟨h0, c, v, h1, ⟨o, hk _ _ ho, hd⟩, h3, fun hm => dead hm ho rfl⟩
  · obtain ⟨o, e⟩ := G.liveμ hm
    exact dead ha e rfl
  · obtain ⟨o, e⟩ := G.liveT
    exact dead hm e rfl
  · cases q : B.hb.get? a with
    | none => rfl
    | some o => exact absurd rfl (dead ha (G.base a o q))

/-- the cells that a block closes over -/
noncomputable def closeOf (f : Str → Option Addr) : List (Str × NameKind) → List (Str × Addr) → List (Str × Addr)
  | [], acc => acc
  | (n, k) :: r, acc => if k == .free then closeOf f r ((n, (f n).getD 0) :: acc) else closeOf f r acc

theorem closure_eq {scope : Scope} (h : ∀ p ∈ scope.names, p.2 = .free → (env.cells.lookup p.1).isSome = true) : closureFor scope env = pure (closeOf (fun z => env.cells.lookup z) scope.names []) := by
  have main : ∀ (names : List (Str × NameKind)) (acc : List (Str × Addr)), (∀ p ∈ names, p.2 = .free → (env.cells.lookup p.1).isSome = true) →
      (forIn names acc fun (x : Str × NameKind) (cs : List (Str × Addr)) => if x.2 == NameKind.free then (do let c ← cellOf env x.1; pure (ForInStep.yield ((x.1, c) :: cs))) else (pure (ForInStep.yield cs) : Sem (ForInStep (List (Str × Addr))))) = pure (closeOf (fun z => env.cells.lookup z) names acc) := by
    intro names
    induction names with
    | nil => intro acc _; rfl
    | cons p r ih =>
      intro acc hp
      obtain ⟨x, k⟩ := p
      rw [List.forIn_cons]
      unfold closeOf
      by_cases hk : (k == NameKind.free) = true
      · have hs := hp (x, k) (.head _) (by simpa using hk)
        obtain ⟨c, hc⟩ := Option.isSome_iff_exists.mp hs
        have e : cellOf env x = pure c := by
          unfold cellOf
          simp only at hc
          rw [hc]
        simp only [hk, if_true, e, pure_bind]
        rw [ih _ fun p hp' => hp p (.tail _ hp')]
        have e2 : ((List.lookup x env.cells).getD 0 : Addr) = c := by
          simp only at hc
          rw [hc]; rfl
        rw [e2]
      · simp only [hk, if_false, pure_bind]
        exact ih _ fun p hp' => hp p (.tail _ hp')
  unfold closureFor
  have := main scope.names [] h
  simp only [bind_pure] at this ⊢
  exact this

theorem close_lookup {f : Str → Option Addr} : ∀ (names : List (Str × NameKind)) (acc : List (Str × Addr)) (x : Str), (names.map (·.1)).Nodup →
    (closeOf f names acc).lookup x = if names.lookup x = some .free then some ((f x).getD 0) else acc.lookup x
  | [], acc, x, _ => by simp [closeOf]
  | (y, k) :: r, acc, x, hn => by
    obtain ⟨h1, h2⟩ := List.nodup_cons.mp hn
    unfold closeOf
    have hr : x = y → r.lookup x = none := fun e => by
      subst e
      cases q : r.lookup x with
      | none => rfl
      | some kk => exact absurd (List.mem_map.mpr ⟨(x, kk), mem_of_lookup q, rfl⟩) h1
    by_cases hk : (k == NameKind.free) = true
    · have hk' : k = .free := by simpa using hk
      rw [if_pos hk, close_lookup r _ x h2]
      by_cases e : x = y
      · have := hr e
        subst e
        rw [this, if_neg (by simp), List.lookup_cons, List.lookup_cons]
        simp [hk']
      · rw [List.lookup_cons, List.lookup_cons, beq_eq_false_iff_ne.mpr e]
    · rw [if_neg hk, close_lookup r _ x h2]
      by_cases e : x = y
      · have := hr e
        subst e
        rw [this, if_neg (by simp), List.lookup_cons]
        have hk' : k ≠ .free := by simpa using hk
        simp [hk']
      · rw [List.lookup_cons, beq_eq_false_iff_ne.mpr e]

theorem cells_append : ∀ (names : List (Str × NameKind)) (m : Nat) (acc : List (Str × Addr)), cellsFrom m names acc = cellsFrom m names [] ++ acc
  | [], m, acc => by simp [cellsFrom]
  | (y, k) :: r, m, acc => by
    unfold cellsFrom
    split
    · rw [cells_append r (m + 1) ((y, m) :: acc), cells_append r (m + 1) [(y, m)], List.append_assoc]; rfl
    · exact cells_append r m acc

theorem cells_mem : ∀ (names : List (Str × NameKind)) (m : Nat) (acc : List (Str × Addr)) {x : Str} {c : Addr}, (x, c) ∈ cellsFrom m names acc → (x, NameKind.cell) ∈ names ∨ (x, c) ∈ acc
  | [], m, acc, x, c, h => .inr h
  | (y, k) :: r, m, acc, x, c, h => by
    unfold cellsFrom at h
    split at h
    · rename_i hk
      rcases cells_mem r _ _ h with q | q
      · exact .inl (.tail _ q)
      · rcases List.mem_cons.mp q with e | q
        · cases e
          have : k = .cell := by simpa using hk
          exact .inl (by rw [this]; exact .head _)
        · exact .inr q
    · rcases cells_mem r _ _ h with q | q
      · exact .inl (.tail _ q)
      · exact .inr q

theorem lookup_nodup {α : Type} : ∀ {l : List (Str × α)} {x : Str} {k : α}, (l.map (·.1)).Nodup → (x, k) ∈ l → l.lookup x = some k
  | (y, j) :: r, x, k, hn, h => by
    obtain ⟨h1, h2⟩ := List.nodup_cons.mp hn
    rcases List.mem_cons.mp h with e | h
    · cases e; simp
    · have ne : x ≠ y := fun e => h1 (List.mem_map.mpr ⟨(x, k), h, e⟩)
      rw [List.lookup_cons, beq_eq_false_iff_ne.mpr ne]
      exact lookup_nodup h2 h

theorem lookup_relabel {scope : Scope} (x : Str) : ∀ (names : List (Str × NameKind)) (g : Str → NameKind → NameKind), (names.map fun p => (p.1, g p.1 p.2)).lookup x = (names.lookup x).map (g x)
  | [], _ => rfl
  | (y, k) :: r, g => by
    rw [List.map_cons, List.lookup_cons, List.lookup_cons]
    by_cases e : x = y
    · subst e; simp
    · simp only [beq_eq_false_iff_ne.mpr e]
      exact lookup_relabel (scope := scope) x r g
end
end Mine
end
section
open PySem PySem.W PySem.Calls PyProof.Rows PySem.Spec
namespace Mine

section
variable {B : Base} {R : Rec} {n : Nat} {K : Frag} {env : Env} {me : ME} {lc lc' : Lc} {st st' : St} {μ μ' μ₀ : List Addr} {I I' I₀ : Led} {s s' s₀ : Shared} {A : Around} {E : Value → Shared → Prop}

theorem newEnv_around {scope : Scope} {g : Addr} {cl : List (Str × Addr)} {qual : Str} {outer : Env} {b : Addr} {Q : Env → Shared → Prop}
    (hQ : Q (newEnv scope s.heap.objs.size g (cellsFrom (s.heap.objs.size + 1) scope.names cl) qual none .none (some outer) b) { s with heap := pushCells (s.heap.push { cls := .type "dict", data := .dict #[] }) scope.names }) :
    wpAny B.M A (newFunctionEnv scope g cl [] qual none .none (some outer) b) Q E s := by
  simp only [newFunctionEnv, Option.isSome_some, if_true]
  refine wpAny_bind (wpAny_alloc ?_)
  refine wpAny_bind (wpAny_layCells _ (fun name kind cells => by cases hkc : kind == NameKind.cell <;> simp [hkc]) _ _ _ _ ?_)
  rw [show ({ s with heap := s.heap.push { cls := .type "dict", data := .dict #[] } } : Shared).heap.objs.size = s.heap.objs.size + 1 from Heap.size_push ..]
  rw [List.forIn_nil]
  exact wpAny_bind (wpAny_pure (wpAny_pure hQ))

structure InnerOk (me : ME) (scope : Scope) : Prop where
  kf : scope.kind = .function
  gen : scope.isGenerator = false
  co : scope.isCoroutine = false
  nd : (scope.names.map (·.1)).Nodup
  dbg : scope.names.lookup ("__debug__" : Str) = none
  cd : scope.names.lookup ("__classdict__" : Str) = none
  free : ∀ p ∈ scope.names, p.2 = .free → me.kind p.1 = some .cell ∨ me.kind p.1 = some .free

theorem scopeOk_spec {scope : Scope} (h : scopeOk scope = true) : scope.kind = .function ∧ scope.isGenerator = false ∧ scope.isCoroutine = false ∧ (scope.names.map (·.1)).Nodup ∧ scope.names.lookup ("__debug__" : Str) = none ∧ scope.names.lookup ("__classdict__" : Str) = none := by
  unfold scopeOk at h
  simp only [Bool.and_eq_true, beq_iff_eq, decide_eq_true_eq, Bool.not_eq_true', Option.isNone_iff_eq_none] at h
  obtain ⟨⟨⟨⟨⟨a, b⟩, c⟩, d⟩, e⟩, f⟩ := h
  exact ⟨a, b, c, d, e, f⟩

theorem innerOk_spec {scope : Scope} (h : innerOk me scope = true) : InnerOk me scope := by
  unfold innerOk at h
  rw [Bool.and_eq_true] at h
  obtain ⟨h1, h2⟩ := h
  obtain ⟨a, b, c, d, e, f⟩ := scopeOk_spec h1
  refine ⟨a, b, c, d, e, f, fun p hp hf => ?_⟩
  have := List.all_eq_true.mp h2 p hp
  rw [hf] at this
  simpa using this

theorem inner_cells (F : FrOk B env me lc μ I s.heap) {scope : Scope} (O : InnerOk me scope) : ∀ p ∈ scope.names, p.2 = .free → (env.cells.lookup p.1).isSome = true :=
  fun p hp hf => F.lk p.1 (O.free p hp hf)

theorem capture_spec (F : FrOk B env me lc μ I s.heap) {scope : Scope} {x : Str} {mv : MV} (h : capture me lc scope x = some mv) :
    scope.names.lookup x = some .free ∧ ∃ c v, env.cells.lookup x = some c ∧ s.heap.IsCell c (some v) ∧ V I μ v mv := by
  unfold capture at h
  split at h
  · rename_i hf
    refine ⟨hf, ?_⟩
    split at h
    · split at h
      · rename_i ho
        obtain ⟨_, c, u, h1, h2, h3⟩ := F.cel x ho
        obtain ⟨v, rfl, hv⟩ := h3 mv h
        exact ⟨c, v, h1, h2, hv⟩
      · obtain ⟨_, c, v, h1, h2, h3, _⟩ := F.fre x mv h
        exact ⟨c, v, h1, h2, h3⟩
    · obtain ⟨_, c, v, h1, h2, h3, _⟩ := F.fre x mv h
      exact ⟨c, v, h1, h2, h3⟩
    · cases h
  · cases h

noncomputable def compCells (env : Env) (scope : Scope) (m : Nat) : List (Str × Addr) := cellsFrom m scope.names (closeOf (fun z => env.cells.lookup z) scope.names [])

theorem compCells_own {scope : Scope} (nd : (scope.names.map (·.1)).Nodup) {m : Nat} {x : Str} (h : scope.names.lookup x = some .cell) : ∃ c, (compCells env scope m).lookup x = some c ∧ (x, c) ∈ cellsFrom m scope.names [] := by
  unfold compCells
  rw [cells_append, List.lookup_append]
  have hs := cellsFrom_some scope.names m [] (.inl h)
  obtain ⟨c, hc⟩ := Option.isSome_iff_exists.mp hs
  exact ⟨c, by rw [hc]; rfl, mem_of_lookup hc⟩

theorem compCells_free {scope : Scope} (nd : (scope.names.map (·.1)).Nodup) {m : Nat} {x : Str} (h : scope.names.lookup x = some .free) : (compCells env scope m).lookup x = some ((env.cells.lookup x).getD 0) := by
  unfold compCells
  rw [cells_append, List.lookup_append]
  have hn : (cellsFrom m scope.names []).lookup x = none := by
    cases q : (cellsFrom m scope.names []).lookup x with
    | none => rfl
    | some c =>
      rcases cells_mem scope.names m [] (mem_of_lookup q) with z | z
      · have := lookup_nodup nd z
        rw [h] at this; cases this
      · cases z
  rw [hn, close_lookup _ _ _ nd, if_pos h]
  rfl

theorem relabel_kind {scope : Scope} (x : Str) : (relabelM me scope).names.lookup x = (scope.names.lookup x).map fun k => if (k == .free && me.scope.kind == .function && me.kind x == some .cell) = true then .cell else k := by
  have := lookup_relabel (scope := scope) x scope.names (fun n k => if (k == .free && me.scope.kind == .function && me.kind n == some .cell) = true then .cell else k)
  rw [← this]
  congr 1
  unfold relabelM
  dsimp only
  apply List.map_congr_left
  intro p _
  obtain ⟨n, k⟩ := p
  dsimp only
  split <;> rfl
end
end Mine
end
section
open PySem PySem.W PySem.Calls PyProof.Rows PySem.Spec
namespace Mine

section
variable {B : Base} {R : Rec} {n : Nat} {K : Frag} {env : Env} {me : ME} {lc lc' : Lc} {st st' : St} {μ μ' μ₀ : List Addr} {I I' I₀ : Led} {s s' s₀ : Shared} {A : Around} {E : Value → Shared → Prop}

noncomputable abbrev compMe (me : ME) (lc : Lc) (scope : Scope) : ME := ⟨relabelM me scope, capture me lc scope, fun x => scope.names.lookup x == some .cell, false⟩
noncomputable abbrev compEnv (env : Env) (scope : Scope) (C : Addr) : Env :=
  { (newEnv scope C env.globals (compCells env scope (C + 1)) env.qual none .none (some env) builtinsNs) with scope := relabel scope env }

theorem relabel_eq (F : FrOk B env me lc μ I s.heap) (scope : Scope) : relabel scope env = relabelM me scope := by
  unfold relabel relabelM
  have h1 : env.scope = me.scope := F.sc
  have h2 : ∀ x, env.kindOf x = me.kind x := fun x => by unfold Env.kindOf ME.kind; rw [h1]
  simp only [h1, h2]

theorem close_mem {f : Str → Option Addr} : ∀ (names : List (Str × NameKind)) (acc : List (Str × Addr)) {x : Str} {c : Addr}, (x, c) ∈ closeOf f names acc → (x, NameKind.free) ∈ names ∨ (x, c) ∈ acc
  | [], acc, x, c, h => .inr h
  | (y, k) :: r, acc, x, c, h => by
    unfold closeOf at h
    split at h
    · rename_i hk
      rcases close_mem r _ h with q | q
      · exact .inl (.tail _ q)
      · rcases List.mem_cons.mp q with e | q
        · cases e
          have : k = .free := by simpa using hk
          exact .inl (by rw [this]; exact .head _)
        · exact .inr q
    · rcases close_mem r _ h with q | q
      · exact .inl (.tail _ q)
      · exact .inr q

theorem comp_frame (X : At B env me lc st μ I s₀ μ₀ I₀ s) {scope : Scope} (O : InnerOk me scope) {h3 : Heap} (hk : ∀ b o, s.heap.get? b = some o → h3.get? b = some o) :
    FrOk B (compEnv env scope h3.objs.size) (compMe me lc scope) Lc.nil μ I (pushCells (h3.push { cls := .type "dict", data := .dict #[] }) scope.names) ∧
      (∀ a ∈ ownOf (compEnv env scope h3.objs.size) (compMe me lc scope), h3.objs.size ≤ a) := by
  have F := X.fr
  have ok := cellsFrom_ok scope.names (h3.push { cls := .type "dict", data := .dict #[] }) (h3.objs.size + 1) [] ⟨fun _ _ hm => (nomatch hm), List.Pairwise.nil⟩ (by rw [Heap.size_push]; exact Nat.le_refl _)
  rw [Heap.size_push] at ok
  have grow : ∀ b o, h3.get? b = some o → (pushCells (h3.push { cls := .type "dict", data := .dict #[] }) scope.names).get? b = some o := fun b o e => pushCells_keeps _ _ b o (Heap.get?_push_of_some _ e)
  have ownMem : ∀ a ∈ ownOf (compEnv env scope h3.objs.size) (compMe me lc scope), a = h3.objs.size ∨ ∃ x, (x, a) ∈ cellsFrom (h3.objs.size + 1) scope.names [] := fun a ha => by
    rcases List.mem_cons.mp ha with q | q
    · exact .inl q
    · obtain ⟨p, hp, rfl⟩ := List.mem_map.mp q
      obtain ⟨hp1, hp2⟩ := List.mem_filter.mp hp
      have hc : scope.names.lookup p.1 = some .cell := by simpa using hp2
      have hp1 : p ∈ compCells env scope (h3.objs.size + 1) := hp1
      unfold compCells at hp1
      rw [cells_append] at hp1
      rcases List.mem_append.mp hp1 with z | z
      · exact .inr ⟨p.1, z⟩
      · rcases close_mem scope.names [] (x := p.1) (c := p.2) z with y | y
        · have := lookup_nodup O.nd y
          rw [hc] at this; cases this
        · cases y
  have ownGe : ∀ a ∈ ownOf (compEnv env scope h3.objs.size) (compMe me lc scope), h3.objs.size ≤ a := fun a ha => by
    rcases ownMem a ha with rfl | ⟨x, hx⟩
    · exact Nat.le_refl _
    · exact Nat.le_of_succ_le (ok.empty x a hx).2
  have fresh : ∀ a ∈ ownOf (compEnv env scope h3.objs.size) (compMe me lc scope), s.heap.get? a = none := fun a ha => by
    cases q : s.heap.get? a with
    | none => rfl
    | some o => exact absurd (Heap.lt_size (hk a o q)) (Nat.not_lt.mpr (ownGe a ha))
  have kind : ∀ x, (compMe me lc scope).kind x = (scope.names.lookup x).map fun k => if (k == .free && me.scope.kind == .function && me.kind x == some .cell) = true then .cell else k := fun x => relabel_kind x
  refine ⟨FrOk.fresh X.good (fun b o e => grow b o (hk b o e)) fresh (relabel_eq F scope) O.kf ?_ ?_ F.gl F.bu ?_ ?_ ?_ ?_ ?_ ?_ ?_ ?_ ?_, ownGe⟩
  · rw [kind, O.dbg]; rfl
  · rw [kind, O.cd]; rfl
  · obtain ⟨o, ho⟩ := F.live _ own_locals
    exact Nat.le_of_lt (Nat.lt_of_le_of_lt F.ab (Heap.lt_size (hk _ _ ho)))
  · exact ⟨_, (Heap.Ns.new h3 (.type "dict")).keeps (pushCells_keeps _ _), fun x mv _ h => nomatch h⟩
  · intro x hx
    rw [kind] at hx
    cases q : scope.names.lookup x with
    | none => rw [q] at hx; simp at hx
    | some k =>
      induction k using PySem.NameKind.casesOn with
      | cell =>
        obtain ⟨c, hc, _⟩ := compCells_own (env := env) O.nd (m := h3.objs.size + 1) q
        show ((compCells env scope (h3.objs.size + 1)).lookup x).isSome = true
        rw [hc]; rfl
      | free =>
        show ((compCells env scope (h3.objs.size + 1)).lookup x).isSome = true
        rw [compCells_free O.nd q]; rfl
      | «local» => rw [q] at hx; simp at hx
      | globalImplicit => rw [q] at hx; simp at hx
      | globalExplicit => rw [q] at hx; simp at hx
  · intro x hx
    have hc : scope.names.lookup x = some .cell := by simpa using hx
    obtain ⟨c, h1, h2⟩ := compCells_own (env := env) O.nd (m := h3.objs.size + 1) hc
    refine ⟨by rw [kind, hc]; rfl, c, none, h1, (ok.empty x c h2).1, fun mv h => nomatch h⟩
  · intro x y c hx hy h1 h2
    have hx : scope.names.lookup x = some .cell := by simpa using hx
    have hy : scope.names.lookup y = some .cell := by simpa using hy
    obtain ⟨c1, a1, b1⟩ := compCells_own (env := env) O.nd (m := h3.objs.size + 1) hx
    obtain ⟨c2, a2, b2⟩ := compCells_own (env := env) O.nd (m := h3.objs.size + 1) hy
    have h1 : (compCells env scope (h3.objs.size + 1)).lookup x = some c := h1
    have h2 : (compCells env scope (h3.objs.size + 1)).lookup y = some c := h2
    rw [a1] at h1; cases h1
    rw [a2] at h2; cases h2
    exact name_of_addr ok.apart b1 b2
  · intro x mv hx
    obtain ⟨hf, c, v, h1, h2, h3'⟩ := capture_spec F (show capture me lc scope x = some mv from hx)
    refine ⟨?_, c, v, ?_, h2, h3'⟩
    · show (scope.names.lookup x == some .cell) = false
      rw [hf]; rfl
    · show (compCells env scope (h3.objs.size + 1)).lookup x = some c
      rw [compCells_free O.nd hf, h1]; rfl
  · intro x c hx h1
    have hx : scope.names.lookup x = some .cell := by simpa using hx
    obtain ⟨c1, a1, b1⟩ := compCells_own (env := env) O.nd (m := h3.objs.size + 1) hx
    have h1 : (compCells env scope (h3.objs.size + 1)).lookup x = some c := h1
    rw [a1] at h1; cases h1
    exact fun e => absurd (ok.empty x _ b1).2 (by rw [show c = h3.objs.size from e]; exact Nat.not_succ_le_self _)
  · intro a ha
    rcases ownMem a ha with rfl | ⟨x, hx⟩
    · exact ⟨_, pushCells_keeps _ _ _ _ (Heap.get?_push_size _ rfl)⟩
    · obtain ⟨⟨o, ho, _⟩, _⟩ := ok.empty x a hx
      exact ⟨o, ho⟩
  · intro h; cases h

theorem Own.other {env' : Env} {me' : ME} {h : Heap} {d : Addr} (W : Own B env me μ I h d) (ho : d ∉ ownOf env' me') : Own B env' me' μ I h d := ⟨W.m, W.i, W.t, ho, W.b, W.cell⟩
theorem ItX.other {env' : Env} {me' : ME} {h : Heap} {ia : Addr} {it : It} (hx : Own B env me μ I h ia ∧ ItH I μ h ia it) (hb : isEnm it = false) (ho : ia ∉ ownOf env' me') : ItX B env' me' μ I h ia it := by
  exact ItX.ofBase hb (hx.1.other ho) hx.2
theorem iter_plain {e : Expr} (hs : isSet e = false) (x : Value) : foldedSetIterable e env x = pure x := by
  unfold foldedSetIterable
  induction e using PySem.Expr.casesOn with
  | Set => exact Bool.noConfusion (show true = false from hs)
  | _ => rfl

/-- a comprehension, up to its end: the list is made, the frame still there -/
theorem comp_core (ev : EvS B R n) (cp : CompS B R n) (hR : Room A n) {elt t it : Expr} {ifs : List Expr} {scope : Scope} {pos : Pos} {v : MV} {i : It} {vs : List MV} {st1 : St} (use : Option (Value → Sem Unit)) {Q : Value → Shared → Prop} (hs : isSet it = false) (O : InnerOk me scope)
    (h1 : R.ev it me lc st = some (v, st1)) (h2 : itOf v st1 = some i) (h3 : R.comp elt t ifs i [] (compMe me lc scope) Lc.nil st1 = some (vs, st')) (X : At B env me lc st μ I s₀ μ₀ I₀ s)
    (k : ∀ D C s' μ' I', At B env me lc st' μ' I' s₀ μ₀ I₀ s' → Le μ I μ' I' → V I' μ' (.ref D) (.lst vs) → Own B env me μ' I' s'.heap C → s₀.heap.get? C = none → (∃ m, s'.heap.Ns C m) → D ≠ C → compPost B.M A E use Q (.ref D) C (.ok .next) s') :
    wpAny B.M A (comprehension (.ListComp elt [⟨t, it, ifs, 0⟩] scope pos) scope env (firstIterPos [⟨t, it, ifs, 0⟩] pos) (newList []) (firstAsync [⟨t, it, ifs, 0⟩]) (firstIter [⟨t, it, ifs, 0⟩] env) use) Q E s := by
  have hset := iter_plain (env := env) hs
  have hloc : ∀ x ∈ scope.names, x.2 = .local → scope.names.lookup x.1 = some .local := fun x hx hk => lookup_nodup O.nd (by rw [← hk]; exact hx)
  refine wpAny_comprehension_free (g := ⟨t, it, ifs, 0⟩) (gs := []) rfl hset (closure_eq (inner_cells X.fr O)) O.kf hloc ?_
  refine ev h1 hR X fun xv s1 μ1 I1 X1 l1 hv => ?_
  refine sim_iter h2 hv X1.start fun ia s2 X2 W2 hi n2 hb hk2 => ?_
  obtain ⟨oi, hoi⟩ := hi.live
  have hD0 : s1.heap.get? s2.heap.objs.size = none := X2.ext.old (fresh_size _)
  have X3 := X2.grow (h' := s2.heap.push { cls := .type "list", data := .seq #[] }) (fun _ _ e => Heap.get?_push_of_some _ e) s2.toks
  have W3 : Own B env me μ1 I1 (s2.heap.push { cls := .type "list", data := .seq #[] }) s2.heap.objs.size := own_push X2 _ rfl (fun u e => nomatch e)
  refine wpAny_newObj_type ?_ (by show (#[] : Array Value).size ≤ sizeLine; rw [sizeLine_eq]; simp)
  refine newEnv_around ?_
  have hk3 : ∀ b o, s1.heap.get? b = some o → (s2.heap.push { cls := .type "list", data := .seq #[] }).get? b = some o := fun b o e => Heap.get?_push_of_some _ (hk2 b o e)
  obtain ⟨FC, oge⟩ := comp_frame X1 O hk3
  have grow4 : ∀ b o, (s2.heap.push { cls := .type "list", data := .seq #[] }).get? b = some o → (pushCells ((s2.heap.push { cls := .type "list", data := .seq #[] }).push { cls := .type "dict", data := .dict #[] }) scope.names).get? b = some o :=
    fun b o e => pushCells_keeps _ _ b o (Heap.get?_push_of_some _ e)
  have off : ∀ {a o}, (s2.heap.push { cls := .type "list", data := .seq #[] }).get? a = some o → a ∉ ownOf (compEnv env scope (s2.heap.push { cls := .type "list", data := .seq #[] }).objs.size) (compMe me lc scope) :=
    fun e hm => absurd (Heap.lt_size e) (Nat.not_lt.mpr (oge _ hm))
  generalize hC : (s2.heap.push { cls := .type "list", data := .seq #[] }).objs.size = C at *
  generalize hh4 : pushCells ((s2.heap.push { cls := .type "list", data := .seq #[] }).push { cls := .type "dict", data := .dict #[] }) scope.names = h4 at *
  have hgl : newEnv scope C env.globals (cellsFrom (C + 1) scope.names (closeOf (fun z => env.cells.lookup z) scope.names [])) env.qual none .none (some env) builtinsNs = newEnv scope C env.globals (compCells env scope (C + 1)) env.qual none .none (some env) builtinsNs := rfl
  have X4 : At B (compEnv env scope C) (compMe me lc scope) Lc.nil st1 μ1 I1 s1 μ1 I1 { s2 with heap := h4 } :=
    ⟨by rw [X2.same], Ext.grow fun b o e => grow4 b o (hk3 b o e), X1.good.grow fun b o e => grow4 b o (hk3 b o e), FC⟩
  have hD : (s2.heap.push { cls := .type "list", data := .seq #[] }).get? s2.heap.objs.size = some (listOf #[] 0) := Heap.get?_push_size _ rfl
  have hDne : s2.heap.objs.size ≠ ia := Nat.ne_of_gt (Heap.lt_size hoi)
  have Wi4 : Own B (compEnv env scope C) (compMe me lc scope) μ1 I1 h4 ia := ⟨W2.m, W2.i, W2.t, off (Heap.get?_push_of_some _ hoi), W2.b, fun u hu => by
    obtain ⟨o, e, hd⟩ := hu
    rw [grow4 _ _ (Heap.get?_push_of_some _ hoi)] at e; cases e
    exact W2.cell u ⟨_, hoi, hd⟩⟩
  have WD4 : Own B (compEnv env scope C) (compMe me lc scope) μ1 I1 h4 s2.heap.objs.size := ⟨W3.m, W3.i, W3.t, off hD, W3.b, fun u hu => by
    obtain ⟨o, e, hd⟩ := hu
    rw [grow4 _ _ hD] at e; cases e; cases hd⟩
  have hi4 : ItH I1 μ1 h4 ia i := hi.ext .refl fun o e => grow4 _ _ (Heap.get?_push_of_some _ e)
  have main : codeAny B.M A (.compLoop (.ListComp elt [⟨t, it, ifs, 0⟩] scope pos) 0 (.ref ia) (.ref s2.heap.objs.size) (compEnv env scope C)) (compPost B.M A E use Q (.ref s2.heap.objs.size) C) { s2 with heap := h4 } := by
    refine cp h3 hR X4 (ItX.other ⟨Wi4, hi4⟩ hb Wi4.o) (ItNew.base hb n2) WD4 hD0 hDne (ws := []) (c := 0) (grow4 _ _ hD) .nil (Nat.zero_le _) fun lcf ws' c' s' μ' I' X5 l5 W5 hD5 hv5 hz => ?_
    have freshC : ∀ a ∈ ownOf (compEnv env scope C) (compMe me lc scope), s1.heap.get? a = none := fun a ha => by
      cases q : s1.heap.get? a with
      | none => rfl
      | some o => exact absurd ha (off (hk3 _ _ q))
    have X6 : At B env me lc st' μ' I' s₀ μ₀ I₀ s' := by
      have := X1.inner X5.ext freshC X5.good s'.toks
      rw [show s' = { s1 with heap := s'.heap, toks := s'.toks } from X5.same]
      exact this
    have oldOf : ∀ {a}, s1.heap.get? a = none → a ∉ ownOf env me := fun e hm => by
      obtain ⟨o, ho⟩ := X1.fr.live _ hm
      rw [e] at ho; cases ho
    have WD6 : Own B env me μ' I' s'.heap s2.heap.objs.size := W5.other (oldOf hD0)
    have hDs0 : s₀.heap.get? s2.heap.objs.size = none := X1.ext.old hD0
    obtain ⟨X7, l7⟩ := X6.adoptI WD6 hDs0 hD5
    have hC0 : s1.heap.get? C = none := freshC C (show C ∈ ownOf (compEnv env scope C) (compMe me lc scope) from own_locals (env := compEnv env scope C))
    obtain ⟨m, hn, _⟩ := X5.fr.ns
    have DC : s2.heap.objs.size ≠ C := by rw [← hC, Heap.size_push]; exact Nat.ne_of_lt (Nat.lt_succ_self _)
    have oL : C ∈ ownOf (compEnv env scope C) (compMe me lc scope) := own_locals (env := compEnv env scope C)
    have WC : Own B env me μ' ((s2.heap.objs.size, listOf ws'.toArray c') :: I') s'.heap C := ⟨X5.fr.offM _ oL, fun p hp => by
      rcases List.mem_cons.mp hp with rfl | hp
      · exact DC
      · exact X5.fr.offI _ oL p hp, fun e => X5.fr.offT (e ▸ oL), oldOf hC0, X5.fr.offB _ oL, fun u hu => by
        obtain ⟨o, e, hd⟩ := hu
        obtain ⟨o', es, ep, e', hd', _⟩ := hn
        have e' : s'.heap.get? C = some o' := e'
        rw [e] at e'; cases e'
        rw [hd] at hd'; cases hd'⟩
    exact k _ C s' μ' _ X7 (l1.trans (l5.trans l7)) (.lst (.head _) rfl rfl (l7.VS hv5) (by omega)) WC (X1.ext.old hC0) ⟨m, hn⟩ DC
  refine codeAny_compStart_list main (sim_iterSelf (B := B) (it := i) (I := I1) (μ := μ1) hi4 main)

theorem ev_comp (ev : EvS B R n) (cp : CompS B R n) (hR : Room A n) {elt t it : Expr} {ifs : List Expr} {scope : Scope} {pos : Pos} {v : MV} {i : It} {vs : List MV} {st1 : St} {Q : Value → Shared → Prop} (hs : isSet it = false) (O : InnerOk me scope)
    (h1 : R.ev it me lc st = some (v, st1)) (h2 : itOf v st1 = some i) (h3 : R.comp elt t ifs i [] (compMe me lc scope) Lc.nil st1 = some (vs, st')) (X : At B env me lc st μ I s₀ μ₀ I₀ s)
    (k : Kont B env me lc st' μ I s₀ μ₀ I₀ (.lst vs) Q) : wpAny B.M A (eval (.ListComp elt [⟨t, it, ifs, 0⟩] scope pos) env) Q E s := by
  rw [arm_eval_ListComp]
  refine comp_core ev cp hR none hs O h1 h2 h3 X fun D C s' μ' I' X' l' hv WC hC0 hn _ => ?_
  obtain ⟨m, hn⟩ := hn
  refine ⟨m, hn, fun h' hs => ?_⟩
  exact k _ _ μ' I' (X'.scratch WC hC0 (fun b o hb e => (hs.2 b hb).trans e) s'.toks) l' hv

theorem use_comp (ev : EvS B R n) (cp : CompS B R n) (hR : Room A n) {elt t it : Expr} {ifs : List Expr} {scope : Scope} {pos : Pos} {v : MV} {i : It} {vs : List MV} {st1 st2 : St} {u : Value → Sem Unit} {Q : Unit → Shared → Prop} (hs : isSet it = false) (O : InnerOk me scope)
    (h1 : R.ev it me lc st = some (v, st1)) (h2 : itOf v st1 = some i) (h3 : R.comp elt t ifs i [] (compMe me lc scope) Lc.nil st1 = some (vs, st2)) (X : At B env me lc st μ I s₀ μ₀ I₀ s)
    (hu : ∀ v s' μ' I', At B env me lc st2 μ' I' s' μ' I' s' → Le μ I μ' I' → V I' μ' v (.lst vs) → wpAny B.M A (u v) (fun _ s'' => ∃ μ'' I'', At B env me lc' st' μ'' I'' s' μ' I' s'' ∧ Le μ' I' μ'' I'') E s')
    (k : ∀ s' μ' I', At B env me lc' st' μ' I' s₀ μ₀ I₀ s' → Le μ I μ' I' → Q () s') : wpAny B.M A (evalThenUse (.ListComp elt [⟨t, it, ifs, 0⟩] scope pos) env u) Q E s := by
  show wpAny _ _ (do let _ ← comprehension (.ListComp elt [⟨t, it, ifs, 0⟩] scope pos) scope env (firstIterPos [⟨t, it, ifs, 0⟩] pos) (newList []) (firstAsync [⟨t, it, ifs, 0⟩]) (firstIter [⟨t, it, ifs, 0⟩] env) (some u)) _ _ _
  refine wpAny_bind (comp_core ev cp hR (some u) hs O h1 h2 h3 X fun D C s' μ' I' X' l' hv WC hC0 hn _ => ?_)
  refine wpAny_mono (hu _ s' μ' I' X'.start l' hv) (fun _ s'' h => ?_) fun _ _ e => e
  obtain ⟨μ'', I'', X2, l2⟩ := h
  obtain ⟨m, hn⟩ := hn
  obtain ⟨oC, hoC⟩ : ∃ o, s'.heap.get? C = some o := let ⟨o, _, _, e, _⟩ := hn; ⟨o, e⟩
  obtain ⟨WC2, hC2⟩ := WC.ext hoC X2.ext
  refine ⟨m, hn.at' fun o e => (by rw [hoC] at e; cases e; exact hC2), fun h' hs => ?_⟩
  exact wpAny_pure (k _ μ'' I'' ((X'.trans X2).scratch WC2 hC0 (fun b o hb e => (hs.2 b hb).trans e) s''.toks) (l'.trans l2))
end
end Mine
end
section
open PySem PySem.W PySem.Calls PyProof.Rows PySem.Spec
namespace Mine

/-- what the program's functions and classes are -/
structure DefOk (B : Base) (K : Frag) : Prop extends TopOk B K where
  keepF : ∀ a d, B.P.defs a = some d → keepIn K (.ref a) = true
  keepC : ∀ C i, B.P.init C = some i → keepIn K (.ref C) = true

section
variable {B : Base} {R : Rec} {n : Nat} {K : Frag} {env : Env} {me : ME} {lc lc' : Lc} {st st' : St} {μ μ' μ₀ : List Addr} {I I' I₀ : Led} {s s' s₀ : Shared} {A : Around} {E : Value → Shared → Prop}

theorem args_any : ∀ {args : List Expr} {pos : Pos}, args.any isStarred = false → (backTo pos (starEach args env)).any (·.1) = false
  | [], _, _ => rfl
  | e :: r, pos, h => by
    rw [List.any_cons, Bool.or_eq_false_iff] at h
    rw [starEach_cons h.1]
    show ((false || (backTo pos (starEach r env)).any (·.1))) = false
    rw [args_any h.2]; rfl

theorem eval_args {f : Value} {args : List Expr} {pos : Pos} {Q : Args → Shared → Prop} (hs : args.any isStarred = false) (h : wpAny B.M A (spliced (backTo pos (starEach args env))) (fun vs s' => Q ⟨vs, []⟩ s') E s) :
    wpAny B.M A (evalArgs f true (backTo pos (starEach args env)) []) Q E s := by
  induction args using List.casesOn with
  | nil =>
    unfold evalArgs
    show wpAny _ _ (spliced [] >>= _) Q E s
    refine wpAny_bind (wpAny_mono (show wpAny _ _ (spliced []) _ E s from h) (fun vs s' h' => ?_) fun _ _ x => x)
    refine wpAny_holding ?_
    exact wpAny_bind (wpAny_pure (wpAny_bind (wpAny_pure (wpAny_pure h'))))
  | cons e r =>
    rw [List.any_cons, Bool.or_eq_false_iff] at hs
    rw [starEach_cons hs.1] at h ⊢
    exact evalArgs_plain h

theorem keeper_of {h : Heap} (dk : DefOk B K) (hb : ∀ b o, B.hb.get? b = some o → h.get? b = some o) (hi : ∀ p ∈ I, h.get? p.1 = some p.2) {f : MV} {fv : Value} (hf : callable B.P f = true) (hv : V I μ fv f) :
    ∃ k, (k = Keeper.frame ∨ k = Keeper.machine ∨ k = Keeper.boundFrame) ∧ Looks B.M h (keeperOf fv) k := by
  induction f using MV.casesOn with
  | fn a =>
    obtain rfl := hv.inv
    obtain ⟨d, hd⟩ := Option.isSome_iff_exists.mp hf
    exact keeps_K (dk.keepF a d hd) h (dk.kin.keeps hb)
  | cls a =>
    obtain rfl := hv.inv
    obtain ⟨d, hd⟩ := Option.isSome_iff_exists.mp hf
    exact keeps_K (dk.keepC a d hd) h (dk.kin.keeps hb)
  | bi b =>
    obtain rfl := hv.inv
    exact ⟨.machine, .inr (.inl rfl), by cases b <;> exact .now⟩
  | lam ps body scope fre =>
    obtain ⟨_, _, _, _, _, _, _, _, _, rfl, m1, _⟩ := hv.inv
    exact ⟨.frame, .inl rfl, (Looks.ld (part := none) (hi _ m1)).andThen .now⟩
  | _ => cases hf

theorem VS_strs : ∀ {q : List (Str × Tok)} {ys : List Str}, q.map (·.1) = ys → VS I μ (strValues q) (ys.map .str)
  | [], ys, h => by subst h; exact .nil
  | (x, t) :: q, ys, h => by
    subst h
    exact .cons (.str x t) (VS_strs rfl)

theorem sim_callWith (dk : DefOk B K) (ev : EvS B R n) (cl : CallS B R n) (hR : Room A n) {args : List Expr} {pos : Pos} {f : MV} {fv : Value} {mf : List MV} {vf : List Value} {vs : List MV} {r : MV} {st1 : St} {Q : Value → Shared → Prop}
    (hs : args.any isStarred = false) (hc : callable B.P f = true) (h1 : evs R args me lc st = some (vs, st1)) (h2 : R.call f (mf ++ vs) st1 = some (r, st')) (hf : V I μ fv f) (hvf : VS I μ vf mf) (X : At B env me lc st μ I s₀ μ₀ I₀ s)
    (k : Kont B env me lc st' μ I s₀ μ₀ I₀ r Q) : wpAny B.M A (callWith pos fv vf (backTo pos (starEach args env)) []) Q E s := by
  refine callWith_of (P := fun h => (∀ b o, B.hb.get? b = some o → h.get? b = some o) ∧ ∃ I' μ', (∀ p ∈ I', h.get? p.1 = some p.2) ∧ V I' μ' fv f) (by rw [args_any hs]; rfl) (fun h ⟨hb, I', μ', hi, hv⟩ => keeper_of dk hb hi hc hv) ?_
  refine eval_args hs (sim_evs ev hR hs h1 X fun ws s1 μ1 I1 X1 l1 hv => ⟨⟨X1.good.base, I1, μ1, X1.good.imm, l1.V hf⟩, ?_⟩)
  exact cl h2 hR X1 (l1.V hf) ((l1.VS hvf).append hv) fun v s' μ' I' X' l' => k v s' μ' I' X' (l1.trans l')

theorem ev_call (dk : DefOk B K) (ev : EvS B R n) (cl : CallS B R n) (hR : Room A n) {x : Str} {p pos : Pos} {args : List Expr} {f : MV} {vs : List MV} {r : MV} {st1 st2 : St} {Q : Value → Shared → Prop}
    (hs : args.any isStarred = false) (h0 : R.ev (.Name x p) me lc st = some (f, st1)) (hc : callable B.P f = true) (h1 : evs R args me lc st1 = some (vs, st2)) (h2 : R.call f vs st2 = some (r, st')) (X : At B env me lc st μ I s₀ μ₀ I₀ s)
    (k : Kont B env me lc st' μ I s₀ μ₀ I₀ r Q) : wpAny B.M A (eval (.Call (.Name x p) args [] pos) env) Q E s := by
  rw [arm_eval_Call_Name']
  refine wpAny_bind (ev h0 hR X fun fv s1 μ1 I1 X1 l1 hf => ?_)
  exact sim_callWith dk ev cl hR (mf := []) (vf := []) hs hc h1 h2 hf .nil X1 fun v s' μ' I' X' l' => k v s' μ' I' X' (l1.trans l')

theorem split_inv {x sep : Str} {l : List Str} (h : splitKinds x sep = some l) : (x = "ALL LEADING FIRST CHARACTERS" ∧ sep = " ") ∧ (["ALL", "LEADING", "FIRST", "CHARACTERS"] : List Str) = l := by
  obtain ⟨h1, h2⟩ := ifS h
  exact ⟨h1, Option.some.inj h2⟩
theorem sim_split {x : Str} {t : Tok} {vs : List MV} {ws : List Value} {r : MV} {Q : Value → Shared → Prop} (h : ((one vs).bind fun v => (asStrM v).bind fun sep => (splitKinds x sep).map fun l => (MV.lst (l.map .str), st)) = some (r, st')) (hw : VS I μ ws vs) (X : At B env me lc st μ I s₀ μ₀ I₀ s)
    (k : Kont B env me lc st' μ I s₀ μ₀ I₀ r Q) : wpAny B.M A (call (.builtin "str.split") ([.str x t] ++ ws)) Q E s := by
  obtain ⟨v, hv, h⟩ := bind_some h
  obtain ⟨sep, hs, h⟩ := bind_some h
  obtain ⟨l, hl, h⟩ := map_some h
  obtain ⟨rfl, rfl⟩ := some2 (congrArg some h)
  clear h
  obtain ⟨w, rfl, gw⟩ := one_inv hv hw
  obtain rfl := asStrM_eq hs
  obtain ⟨_, rfl⟩ := gw.inv
  clear hv hw hs
  obtain ⟨hk, rfl⟩ := split_inv hl
  clear hl
  refine call_split_kinds hk.1 hk.2 fun q c hq => ?_
  obtain ⟨X', l⟩ := X.pushI (o := { cls := .type "list", data := .seq (strValues q).toArray }) rfl c
  exact k _ _ _ _ X' l (.lst (.head _) rfl rfl (VS_strs hq) (by rw [List.length_map]; decide))

theorem attr_base {o : Expr} {m : Str} (h : isCall o = false) : attributeBase o m env (eval o env) = eval o env := by
  induction o using PySem.Expr.casesOn with
  | Call => exact no_true' h
  | _ => rfl

theorem form_few {args : List Expr} {pos : Pos} (hs : args.any isStarred = false) (hz : args.length ≤ 29) : methodCallForm args.length (backTo pos (starEach args env)) [] = true := by
  have h := args_any (env := env) (pos := pos) hs
  unfold methodCallForm
  have e : (backTo pos (starEach args env)).all (fun x => !x.1) = true := by
    rw [List.all_eq_not_any_not]
    simp only [Bool.not_not]
    rw [h]; rfl
  rw [e]
  simp; omega

/-- a method's call, the object's value at hand -/
noncomputable abbrev MethG (B : Base) (A : Around) (vo : Value) (m : Str) (o : Expr) (env : Env) (ap pos : Pos) (args : List Expr) (Q : Value → Shared → Prop) (E : Value → Shared → Prop) (s : Shared) : Prop :=
  wpAny B.M A (getMethod vo m (do let b ← importBound o env; pure (b.getD true))) (fun a s' => wpAny B.M A (match a with | (f, first) => do let callPos ← methodCallPos true o env ap pos; callWith callPos f first (backTo pos (starEach args env)) []) Q E s') E s

theorem meth_ins (dk : DefOk B K) (ev : EvS B R n) (cl : CallS B R n) (hR : Room A n) {o : Expr} {m : Str} {ap pos : Pos} {args : List Expr} {C l : Nat} {vo : Value} {r : MV} {Q : Value → Shared → Prop}
    (hs : args.any isStarred = false) (hpos : methodCallPos true o env ap pos = pure pos) (h : methIns B.P R C l m args me lc st = some (r, st')) (hv : V I μ vo (.ins C l)) (X : At B env me lc st μ I s₀ μ₀ I₀ s)
    (k : Kont B env me lc st' μ I s₀ μ₀ I₀ r Q) : MethG B A vo m o env ap pos args Q E s := by
  obtain ⟨_, _, rfl, hx, hl'⟩ := hv.inv
  clear hv
  obtain ⟨mm, F, _⟩ := X.frH
  unfold methIns at h
  cases hm : B.P.meth C m with
  | none => rw [hm] at h; exact no_some h
  | some fo =>
    rw [hm] at h
    induction fo using Option.casesOn with
    | none =>
      obtain ⟨f, hf, h1⟩ := bind_some h
      obtain ⟨hc, h1⟩ := ifN h1
      obtain ⟨q, hq, g⟩ := bind_some hf
      obtain ⟨fs, g2, _⟩ := bind_some (ifS g).2
      obtain rfl := Option.some.inj hq
      obtain ⟨es, c, Iat, hve, _⟩ := X.good.inst hx hl' (instAt_eq g2)
      clear h g g2 hq hve
      refine bindE h1 fun vs st2 h2 h3 => ?_
      clear h1
      obtain ⟨a1, a2, a3, _⟩ := dk.attr C m hm
      refine kmu_own F dk.kin Iat a1 a3 (sim_attr dk.toClsOk hf (.ins hx hl') X fun rv tk hr => ?_)
      refine wpAny_bind (wpAny_of_eq hpos ?_)
      exact sim_callWith dk ev cl hR (mf := []) (vf := []) hs (by simpa using hc) h2 h3 hr .nil (X.tok tk) k
    | some f =>
      obtain ⟨fs, hst, h1⟩ := bind_some h
      obtain ⟨hc, h1⟩ := ifN h1
      obtain ⟨es, c, Iat, hve, _⟩ := X.good.inst hx hl' (instAt_eq hst)
      clear h hst
      refine bindE h1 fun vs st2 h2 h3 => ?_
      clear h1
      obtain ⟨a1, a2, a3⟩ := dk.meth C m f hm
      rw [Bool.or_eq_true, not_or] at hc
      refine method_inst F dk.kin Iat a1 a2 a3 ((hve.getL m).1 (not_isSome hc.1)) ?_
      refine wpAny_bind (wpAny_of_eq hpos ?_)
      exact sim_callWith dk ev cl hR (mf := [.ins C l]) hs (by simpa using hc.2) h2 h3 (.fn f) (.cons (.ins hx hl') .nil) X k

theorem meth_loc (ev : EvS B R n) (hR : Room A n) {o : Expr} {m : Str} {ap pos : Pos} {args : List Expr} {l : Nat} {vo : Value} {r : MV} {Q : Value → Shared → Prop}
    (hs : args.any isStarred = false) (hpos : methodCallPos true o env ap pos = pure pos) (h : methLoc R l m args me lc st = some (r, st')) (hv : V I μ vo (.loc l)) (X : At B env me lc st μ I s₀ μ₀ I₀ s)
    (k : Kont B env me lc st' μ I s₀ μ₀ I₀ r Q) : MethG B A vo m o env ap pos args Q E s := by
  obtain ⟨_, rfl, hl'⟩ := hv.inv
  clear hv
  obtain ⟨xs, hxs, h1⟩ := bind_some h
  obtain ⟨rfl, h1⟩ := ifS h1
  obtain ⟨us, c, L, ra, za⟩ := X.good.listAt hl' (listAt_eq hxs)
  clear h hxs ra za
  refine bindE h1 fun vs st2 h2 h3 => ?_
  clear h1
  refine Calls.getMethod_list_append L rfl rfl ?_
  refine wpAny_bind (wpAny_of_eq hpos ?_)
  refine Calls.callWith_builtin (args_any hs) (eval_args hs (sim_evs ev hR hs h2 X fun ws s2 μ2 I2 X2 l2 hw => ?_))
  clear h2 L X
  obtain ⟨v, hv, h3⟩ := bind_some h3
  obtain ⟨ys, hst, h3⟩ := bind_some h3
  obtain ⟨hz2, h3⟩ := ifS h3
  obtain ⟨rfl, rfl⟩ := some2 h3
  obtain ⟨w, rfl, gw⟩ := one_inv hv hw
  exact sim_append (l2.get _ _ hl') (listAt_eq hst) hz2 gw X2 fun s3 X3 => k _ _ _ _ X3 l2 .none

theorem meth_bytes (ev : EvS B R n) (hR : Room A n) {o : Expr} {m : Str} {ap pos : Pos} {args : List Expr} {b : List UInt8} {vo : Value} {r : MV} {Q : Value → Shared → Prop}
    (hs : args.any isStarred = false) (hpos : methodCallPos true o env ap pos = pure pos) (h : methBytes R b m args me lc st = some (r, st')) (hv : V I μ vo (.bytes b)) (X : At B env me lc st μ I s₀ μ₀ I₀ s)
    (k : Kont B env me lc st' μ I s₀ μ₀ I₀ r Q) : MethG B A vo m o env ap pos args Q E s := by
  obtain ⟨t, rfl, hz'⟩ := hv.inv
  clear hv
  obtain ⟨rfl, h1⟩ := ifS h
  clear h
  refine bindE h1 fun vs st2 h2 h3 => ?_
  clear h1
  refine getMethod_builtin (typeIs_bytes _ _ _) FB.plainAttrs_bytes slot_bytes_index type_bytes_index (fun _ e => nomatch e) ?_
  refine wpAny_bind (wpAny_of_eq hpos ?_)
  refine Calls.callWith_builtin (args_any hs) (eval_args hs (sim_evs ev hR hs h2 X fun ws s2 μ2 I2 X2 l2 hw => ?_))
  clear h2 X
  obtain ⟨v, hv, h3⟩ := bind_some h3
  obtain ⟨i, hi', h3⟩ := bind_some h3
  obtain ⟨hi, h3⟩ := ifS h3
  obtain ⟨j, hj, e⟩ := map_some h3
  obtain ⟨rfl, rfl⟩ := some2 (congrArg some e)
  obtain ⟨w, rfl, gw⟩ := one_inv hv hw
  obtain rfl := asIntM_eq hi'
  obtain ⟨_, rfl⟩ := gw.inv
  exact call_bytes_index hi.1 hi.2 hj (k _ _ _ _ (X2.tok _) l2 (.int _ _))

theorem meth_str (ev : EvS B R n) (hR : Room A n) {o : Expr} {m : Str} {ap pos : Pos} {args : List Expr} {x : Str} {vo : Value} {r : MV} {Q : Value → Shared → Prop}
    (hs : args.any isStarred = false) (hpos : methodCallPos true o env ap pos = pure pos) (h : methStr R x m args me lc st = some (r, st')) (hv : V I μ vo (.str x)) (X : At B env me lc st μ I s₀ μ₀ I₀ s)
    (k : Kont B env me lc st' μ I s₀ μ₀ I₀ r Q) : MethG B A vo m o env ap pos args Q E s := by
  obtain ⟨t, rfl⟩ := hv.inv
  clear hv
  obtain ⟨rfl, h1⟩ := ifS h
  clear h
  refine bindE h1 fun vs st2 h2 h3 => ?_
  clear h1
  refine PySem.GM.split ?_
  refine wpAny_bind (wpAny_of_eq hpos ?_)
  refine Calls.callWith_builtin (args_any hs) (eval_args hs (sim_evs ev hR hs h2 X fun ws s2 μ2 I2 X2 l2 hw => ?_))
  exact sim_split h3 hw X2 fun v s' μ' I' X' l' => k v s' μ' I' X' (l2.trans l')

theorem sim_meth (dk : DefOk B K) (ev : EvS B R n) (cl : CallS B R n) (hR : Room A n) {o : Expr} {m : Str} {ap pos : Pos} {args : List Expr} {ov : MV} {vo : Value} {r : MV} {Q : Value → Shared → Prop}
    (hs : args.any isStarred = false) (hpos : methodCallPos true o env ap pos = pure pos) (h : callMeth B.P R ov m args me lc st = some (r, st')) (hv : V I μ vo ov) (X : At B env me lc st μ I s₀ μ₀ I₀ s)
    (k : Kont B env me lc st' μ I s₀ μ₀ I₀ r Q) : MethG B A vo m o env ap pos args Q E s := by
  induction ov using MV.casesOn with
  | ins C l => exact meth_ins dk ev cl hR hs hpos h hv X k
  | loc l => exact meth_loc ev hR hs hpos h hv X k
  | bytes b => exact meth_bytes ev hR hs hpos h hv X k
  | str x => exact meth_str ev hR hs hpos h hv X k
  | _ => exact no_some h

theorem ev_meth (dk : DefOk B K) (ev : EvS B R n) (cl : CallS B R n) (hR : Room A n) {o : Expr} {m : Str} {ap pos : Pos} {args : List Expr} {ov : MV} {r : MV} {st1 : St} {Q : Value → Shared → Prop}
    (hs : args.any isStarred = false) (hz : args.length ≤ 29) (ho : isCall o = false) (hl : ap.endLine = pos.line) (h0 : R.ev o me lc st = some (ov, st1)) (h1 : callMeth B.P R ov m args me lc st1 = some (r, st')) (X : At B env me lc st μ I s₀ μ₀ I₀ s)
    (k : Kont B env me lc st' μ I s₀ μ₀ I₀ r Q) : wpAny B.M A (eval (.Call (.Attribute o m ap) args [] pos) env) Q E s := by
  rw [arm_eval_Call, attr_base ho]
  refine wpAny_bind (ev h0 hR X fun vo s1 μ1 I1 X1 l1 hv => wpAny_bind (wpAny_standAt ?_))
  have hpos : methodCallPos true o env ap pos = pure pos := by unfold methodCallPos; simp [hl]
  unfold methodCall
  rw [show args.length + ([] : List Keyword).length = args.length from rfl, show backToKw pos (keywordEach [] env) = [] from rfl, form_few hs hz]
  refine wpAny_bind (wpAny_holding ?_)
  exact sim_meth dk ev cl hR hs hpos h1 hv X1 fun v s' μ' I' X' l' => k v s' μ' I' X' (l1.trans l')
end
end Mine
end
section
open PySem PySem.W PySem.Calls PyProof.Rows PySem.Spec
namespace Mine

structure FnOk (B : Base) (a : Addr) (d : MDef) : Prop where
  ob : ∃ o fd, B.hb.get? a = some o ∧ o.data = .func fd ∧ fd.params = d.params ∧ fd.body = .stmts d.body ∧ fd.scope = d.scope ∧ fd.globals = mainGlobals ∧ fd.builtins = builtinsNs ∧ fd.closure = [] ∧ fd.defaults = .none ∧ B.hb.CodeRec fd.code fd.qualname ∧
    (d.lam = true → fd.code = .ref B.tabC ∧ fd.qualname = "_law_hands")
  sc : scopeOk d.scope = true
  pl : plainParams d.params = true
  nofree : ∀ p ∈ d.scope.names, p.2 ≠ .free
  par : ∀ x ∈ d.params.args.map (·.arg), d.scope.names.lookup x = some .local ∨ d.scope.names.lookup x = some .cell

/-- all that the simulation asks of the base -/
structure Ok (B : Base) (K : Frag) : Prop extends DefOk B K where
  lim : B.hb.NoLimit
  fns : ∀ a d, B.P.defs a = some d → FnOk B a d
  tab0 : B.hb.get? B.tab = none
  head : CodeHd B.hb B.tabC B.tab
  bmain : B.hb.BuiltinsAt B.mg B.tab

noncomputable def CodeS (B : Base) (R : Rec) (n : Nat) : Prop := ∀ {a : Addr} {args : List MV} {st : St} {mv : MV} {st' : St}, R.call (.fn a) args st = some (mv, st') → ∀ {vs : List Value} {me : ME} {lc : Lc} {env : Env} {A : Around} {s s₀ : Shared} {μ₀ μ : List Addr} {I₀ I : Led} {Q : Result → Shared → Prop},
  Room A n → At B env me lc st μ I s₀ μ₀ I₀ s → VS I μ vs args → (∀ v s' μ' I', At B env me lc st' μ' I' s₀ μ₀ I₀ s' → Le μ I μ' I' → V I' μ' v mv → Q (.ok (.ret v)) s') → codeAny B.M A (.call (.ref a) ⟨vs, []⟩) Q s

section
variable {B : Base} {R : Rec} {n : Nat} {K : Frag} {env : Env} {me : ME} {lc lc' : Lc} {st st' : St} {μ μ' μ₀ : List Addr} {I I' I₀ : Led} {s s' s₀ : Shared} {A : Around} {E : Value → Shared → Prop}

theorem Room.deeper {A : Around} {n : Nat} (h : Room A (n + 1)) (env : Env) : Room (A.deeper env) n := by
  obtain ⟨h1, h2, h3⟩ := h
  refine ⟨h1, ?_, ?_⟩
  · show A.depth + 1 + 2 * n + 2 ≤ recursionLimit
    omega
  · show A.units + 3 + 10 * n + 20 ≤ cLine
    omega
theorem Room.under {A : Around} {n : Nat} (h : Room A (n + 1)) (C : Addr) (vals : List Value) (kw : List (Str × Value)) : Room (A.under (.builtin "type.__call__" ⟨.ref C :: vals, kw⟩)) n := by
  obtain ⟨h1, h2, h3⟩ := h
  refine ⟨h1, ?_, ?_⟩
  · show A.depth + 1 + 2 * n + 2 ≤ recursionLimit
    omega
  · show A.units + 1 + 10 * n + 20 ≤ cLine
    omega

theorem GoodH.more {h h' : Heap} (G : GoodH B μ I st h) (hk : ∀ b o, h.get? b = some o → h'.get? b = some o) (ex : Led) (hex : ∀ p ∈ ex, h.get? p.1 = none ∧ h'.get? p.1 = some p.2) : GoodH B μ (ex ++ I) st h' := by
  have sub : ∀ p ∈ I, p ∈ ex ++ I := fun p hp => List.mem_append_right _ hp
  refine ⟨fun b o e => hk b o (G.base b o e), fun p hp => ?_, G.len, fun l a mo h1 h2 => (G.rep l a mo h1 h2).mono sub (fun _ _ e => e) (fun o e => hk _ o e), G.nodup, G.offB, fun a ha p hp => ?_, G.offT, fun p hp => ?_, G.tab.keeps (fun o e => hk _ o e) sub⟩
  · rcases List.mem_append.mp hp with q | q
    · exact (hex p q).2
    · exact hk _ _ (G.imm p q)
  · rcases List.mem_append.mp hp with q | q
    · intro e
      obtain ⟨o, ho⟩ := G.liveμ ha
      rw [← e, (hex p q).1] at ho; cases ho
    · exact G.offI a ha p q
  · rcases List.mem_append.mp hp with q | q
    · intro e
      obtain ⟨o, ho⟩ := G.liveT
      rw [← e, (hex p q).1] at ho; cases ho
    · exact G.tabI p q
theorem Ext.more {own : List Addr} {h h' : Heap} (hk : ∀ b o, h.get? b = some o → h'.get? b = some o) (ex : Led) (hex : ∀ p ∈ ex, h.get? p.1 = none) : Ext B own μ I h μ (ex ++ I) h' :=
  ⟨⟨[], by simp⟩, fun p hp => List.mem_append_right _ hp, fun b o e _ _ _ => hk b o e, fun b o e => ⟨o, hk b o e⟩, fun _ e => .inl e, fun p hp => by
    rcases List.mem_append.mp hp with q | q
    · exact .inr (hex p q)
    · exact .inl q⟩

/-- a new frame, with a ledger that may have grown -/
theorem FrOk.fresh' {h h' : Heap} (G : GoodH B μ I st h) (fr : ∀ a ∈ ownOf env me, h.get? a = none)
    (sc : env.scope = me.scope) (kf : me.scope.kind = .function) (nd : me.kind "__debug__" = none) (nc : me.kind "__classdict__" = none) (gl : env.globals = mainGlobals) (bu : env.builtins = builtinsNs) (ab : B.hb.objs.size ≤ env.locals)
    (ns : ∃ m, h'.Ns env.locals m ∧ ∀ x mv, me.kind x = some .local → lc x = some mv → ∃ v, m x = some v ∧ V I' μ v mv)
    (lk : ∀ x, me.kind x = some .cell ∨ me.kind x = some .free → (env.cells.lookup x).isSome = true)
    (cel : ∀ x, me.own x = true → me.kind x = some .cell ∧ ∃ c u, env.cells.lookup x = some c ∧ h'.IsCell c u ∧ ∀ mv, lc x = some mv → ∃ v, u = some v ∧ V I' μ v mv)
    (apart : ∀ x y c, me.own x = true → me.own y = true → env.cells.lookup x = some c → env.cells.lookup y = some c → x = y)
    (fre : ∀ x mv, me.fre x = some mv → me.own x = false ∧ ∃ c v, env.cells.lookup x = some c ∧ h'.IsCell c (some v) ∧ V I' μ v mv ∧ c ∉ ownOf env me)
    (nl : ∀ x c, me.own x = true → env.cells.lookup x = some c → c ≠ env.locals) (live : ∀ a ∈ ownOf env me, ∃ o, h'.get? a = some o) (offI : ∀ a ∈ ownOf env me, ∀ p ∈ I', p.1 ≠ a)
    (lam : me.lam = true → env.code = .ref B.tabC ∧ env.qual ++ "<lambda>" = lamQual ∧ ∀ x mv, me.fre x = some mv → ∃ c o v, env.cells.lookup x = some c ∧ (c, o) ∈ I' ∧ o.data = .cell (some v) ∧ V I' μ v mv) : FrOk B env me lc μ I' h' := by
  have dead : ∀ {a b : Addr} {o}, a ∈ ownOf env me → h.get? b = some o → b ≠ a := fun ha e q => by rw [q, fr _ ha] at e; cases e
  refine ⟨sc, kf, nd, nc, gl, bu, ab, ns, lk, cel, apart, fre, nl, fun a ha hm => ?_, offI, fun hm => ?_, fun a ha => ?_, live, lam⟩
  · obtain ⟨o, e⟩ := G.liveμ hm
    exact dead ha e rfl
  · obtain ⟨o, e⟩ := G.liveT
    exact dead hm e rfl
  · cases q : B.hb.get? a with
    | none => rfl
    | some o => exact absurd rfl (dead ha (G.base a o q))

/-- names bound to values, on both sides -/
inductive VB (I : Led) (μ : List Addr) : List (Str × Value) → List (Str × MV) → Prop
  | nil : VB I μ [] []
  | cons {x : Str} {v : Value} {m : MV} {r : List (Str × Value)} {q : List (Str × MV)} : V I μ v m → VB I μ r q → VB I μ ((x, v) :: r) ((x, m) :: q)
theorem VB.zip : ∀ {names : List Str} {vs : List Value} {ms : List MV}, VS I μ vs ms → VB I μ (names.zip vs) (names.zip ms) := by
  intro names vs ms h
  refine h.ind (P := fun vs ms => ∀ names : List Str, VB I μ (names.zip vs) (names.zip ms)) (fun names => ?_) (fun a _ ih names => ?_) names
  · rw [List.zip_nil_right, List.zip_nil_right]; exact .nil
  · induction names using List.casesOn with
    | nil => exact .nil
    | cons x names => exact .cons a (ih names)

theorem bindL_rel {kind : Str → Option NameKind} {kb : Str → Bool} {p : Str → Prop} (hk : ∀ x, p x → (kind x = some .local ↔ kb x = true)) : ∀ {b : List (Str × Value)} {q : List (Str × MV)} {m : Str → Option Value} {lc : Lc}, VB I μ b q →
    (∀ x mv, p x → lc x = some mv → ∃ v, m x = some v ∧ V I μ v mv) → ∀ x mv, p x → bind0 kb q lc x = some mv → ∃ v, bindL kind b m x = some v ∧ V I μ v mv := by
  intro b q m lc hb
  induction hb generalizing m lc with
  | nil => exact fun h x mv hp e => h x mv hp e
  | @cons y v mm _ _ hv r ih =>
    intro h x mv hp e
    rw [bind0_step] at e
    unfold bindL
    refine ih (fun z mz hz ez => ?_) x mv hp e
    by_cases hkb : kb y = true
    · rw [if_pos hkb] at ez
      unfold Lc.set at ez
      by_cases hzy : z = y
      · subst hzy
        rw [if_pos rfl] at ez; cases ez
        rw [if_pos ((hk z hz).mpr hkb)]
        simp only [if_true]
        exact ⟨v, rfl, hv⟩
      · rw [if_neg hzy] at ez
        split
        · simp only [hzy, if_false]; exact h z mz hz ez
        · exact h z mz hz ez
    · rw [if_neg hkb] at ez
      split
      · by_cases hzy : z = y
        · subst hzy
          exact absurd ((hk z hz).mp (by assumption)) hkb
        · simp only [hzy, if_false]; exact h z mz hz ez
      · exact h z mz hz ez

theorem bindC_rel {kind : Str → Option NameKind} {kb : Str → Bool} {p : Str → Prop} (hk : ∀ x, p x → (kind x ≠ some .local ↔ kb x = true)) : ∀ {b : List (Str × Value)} {q : List (Str × MV)} {m : Str → Option Value} {lc : Lc}, VB I μ b q →
    (∀ x mv, p x → lc x = some mv → ∃ v, m x = some v ∧ V I μ v mv) → ∀ x mv, p x → bind0 kb q lc x = some mv → ∃ v, bindC kind b m x = some v ∧ V I μ v mv := by
  intro b q m lc hb
  induction hb generalizing m lc with
  | nil => exact fun h x mv hp e => h x mv hp e
  | @cons y v mm _ _ hv r ih =>
    intro h x mv hp e
    rw [bind0_step] at e
    unfold bindC
    refine ih (fun z mz hz ez => ?_) x mv hp e
    by_cases hkb : kb y = true
    · rw [if_pos hkb] at ez
      unfold Lc.set at ez
      by_cases hzy : z = y
      · subst hzy
        rw [if_pos rfl] at ez; cases ez
        rw [if_neg ((hk z hz).mpr hkb)]
        simp only [if_true]
        exact ⟨v, rfl, hv⟩
      · rw [if_neg hzy] at ez
        split
        · exact h z mz hz ez
        · simp only [hzy, if_false]; exact h z mz hz ez
    · rw [if_neg hkb] at ez
      split
      · exact h z mz hz ez
      · by_cases hzy : z = y
        · subst hzy
          exact absurd ((hk z hz).mp (by assumption)) hkb
        · simp only [hzy, if_false]; exact h z mz hz ez
end
end Mine
end
section
open PySem PySem.W PySem.Calls PyProof.Rows PySem.Spec
namespace Mine

section
variable {B : Base} {R : Rec} {n : Nat} {K : Frag} {env : Env} {me : ME} {lc lc' : Lc} {st st' : St} {μ μ' μ₀ : List Addr} {I I' I₀ : Led} {s s' s₀ : Shared} {A : Around} {E : Value → Shared → Prop}

theorem bind0_kb {kb : Str → Bool} : ∀ {q : List (Str × MV)} {lc : Lc} {x : Str} {mv : MV}, bind0 kb q lc x = some mv → lc x = some mv ∨ kb x = true
  | [], lc, x, mv, h => .inl h
  | (y, m) :: q, lc, x, mv, h => by
    rw [bind0_step] at h
    rcases bind0_kb h with e | e
    · split at e
      · rename_i hk
        unfold Lc.set at e
        split at e
        · rename_i hx
          exact .inr (hx ▸ hk)
        · exact .inl e
      · exact .inl e
    · exact .inr e

theorem cells_nodup : ∀ (names : List (Str × NameKind)) (m : Nat), (names.map (·.1)).Nodup → ((cellsFrom m names []).map (·.1)).Nodup
  | [], m, _ => by simp [cellsFrom]
  | (y, k) :: r, m, h => by
    obtain ⟨h1, h2⟩ := List.nodup_cons.mp h
    unfold cellsFrom
    split
    · rw [cells_append, List.map_append, List.nodup_append]
      refine ⟨cells_nodup r _ h2, by simp, fun a ha b hb => ?_⟩
      simp only [List.map_cons, List.map_nil, List.mem_singleton] at hb
      subst hb
      obtain ⟨p, hp, rfl⟩ := List.mem_map.mp ha
      intro e
      rcases cells_mem r (m + 1) [] (x := p.1) (c := p.2) hp with q | q
      · exact h1 (List.mem_map.mpr ⟨_, q, e⟩)
      · cases q
    · exact cells_nodup r m h2

noncomputable def cellLed (h : Heap) (cs : List (Str × Addr)) : Led := cs.filterMap fun p => (h.get? p.2).map (p.2, ·)
theorem cellLed_mem {h : Heap} {cs : List (Str × Addr)} {p : Addr × Obj} (hp : p ∈ cellLed h cs) : ∃ x, (x, p.1) ∈ cs ∧ h.get? p.1 = some p.2 := by
  obtain ⟨q, hq, e⟩ := List.mem_filterMap.mp hp
  obtain ⟨o, ho, rfl⟩ := map_some e
  exact ⟨q.1, hq, ho⟩
theorem mem_cellLed {h : Heap} {cs : List (Str × Addr)} {x : Str} {c : Addr} {o : Obj} (hc : (x, c) ∈ cs) (ho : h.get? c = some o) : (c, o) ∈ cellLed h cs :=
  List.mem_filterMap.mpr ⟨(x, c), hc, by rw [ho]; rfl⟩

set_option backward.match.sparseCases true in
noncomputable def flowV (v : Flow) : Value :=
  match v with
  | .ret v => v
  | _ => Value.none
theorem VFl.val {v : Flow} {f : MF} (h : VFl I μ v f) : V I μ (flowV v) (retV f) := by
  cases h with
  | ret h => exact h
  | _ => exact .none

theorem step_code (okk : Ok B K) (ex : ExS B R n) : CodeS B (stepR B.P R) (n + 1) := by
  intro a args st mv st' h vs me lc env A s s₀ μ₀ μ I₀ I Q hR X hv k
  obtain ⟨d, hd, g⟩ := bind_some (show (B.P.defs a).bind _ = some (mv, st') from h)
  clear h
  · obtain ⟨hlen, g2⟩ := ifS g
    obtain ⟨⟨f, lcf, st1⟩, h1, e⟩ := map_some g2
    clear g g2
    obtain ⟨rfl, rfl⟩ := some2 (congrArg some e)
    clear e
    have F := okk.fns a d hd
    obtain ⟨o, fd, ho, hdat, e1, e2, e3, e4, e5, e6, e7, hcd, hlam⟩ := F.ob
    obtain ⟨sk, sg, sco, snd, sdb, scd⟩ := scopeOk_spec F.sc
    have hbind : bindArgs fd ⟨vs, []⟩ = pure ((fd.params.args.map (·.arg)).zip vs) := bindArgs_plain e7 (by rw [e1]; exact F.pl) (by rw [e1, hlen, hv.length])
    have par : ∀ x ∈ (fd.params.args.map (·.arg)).zip vs, fd.scope.names.lookup x.1 = some .local ∨ (fd.scope.names.lookup x.1 = some .cell ∧ ((cellsFrom (s.heap.objs.size + 1) fd.scope.names []).lookup x.1).isSome = true) := fun x hx => by
      have hx1 : x.1 ∈ d.params.args.map (·.arg) := by rw [← e1]; exact (List.of_mem_zip hx).1
      rw [e3]
      rcases F.par x.1 hx1 with q | q
      · exact .inl q
      · exact .inr ⟨q, cellsFrom_some _ _ _ (.inl q)⟩
    have hb : VB I μ ((fd.params.args.map (·.arg)).zip vs) ((d.params.args.map (·.arg)).zip args) := by rw [e1]; exact VB.zip hv
    refine codeAny_call_cells hR.depth (X.good.base _ _ ho) hdat (okk.lim.keeps X.good.base) (hcd.keeps X.good.base) e2 hbind e6 par ?_ (by rw [e3]; exact sco) (by rw [e3]; exact sg) (by rw [e3]; exact sk)
    intro s₁ C
    generalize hbs : (fd.params.args.map (·.arg)).zip vs = bs at *
    generalize hqs : (d.params.args.map (·.arg)).zip args = qs at *
    have hL : (callEnvC fd s.heap.objs.size a).locals = s.heap.objs.size := rfl
    have hcells : (callEnvC fd s.heap.objs.size a).cells = cellsFrom (s.heap.objs.size + 1) fd.scope.names [] := rfl
    have hkind : ∀ x, (callEnvC fd s.heap.objs.size a).kindOf x = d.scope.names.lookup x := fun x => by
      show fd.scope.names.lookup x = _
      rw [e3]
    have hk : ∀ b o, s.heap.get? b = some o → s₁.heap.get? b = some o := C.toInCall.keep
    have above : ∀ x c, (x, c) ∈ cellsFrom (s.heap.objs.size + 1) fd.scope.names [] → s.heap.objs.size < c := C.above
    have newc : ∀ x c, (x, c) ∈ cellsFrom (s.heap.objs.size + 1) fd.scope.names [] → s.heap.get? c = none := fun x c hc => Heap.get?_none_of_le (Nat.le_of_lt (above x c hc))
    let ex' : Led := if d.lam then cellLed s₁.heap (cellsFrom (s.heap.objs.size + 1) fd.scope.names []) else []
    have hex : ∀ p ∈ ex', s.heap.get? p.1 = none ∧ s₁.heap.get? p.1 = some p.2 := fun p hp => by
      simp only [ex'] at hp
      split at hp
      · obtain ⟨x, hx, hg⟩ := cellLed_mem hp
        exact ⟨newc x _ hx, hg⟩
      · cases hp
    have le : Le μ I μ (ex' ++ I) := ⟨fun p hp => List.mem_append_right _ hp, fun _ _ e => e⟩
    have hb' : VB (ex' ++ I) μ bs qs := by
      clear hbind par h1 C
      subst hbs hqs
      rw [e1]; exact VB.zip (le.VS hv)
    generalize hme : (⟨d.scope, if d.lam then bind0 (fun x => d.scope.names.lookup x == some .cell) qs Lc.nil else Lc.nil, fun x => !d.lam && d.scope.names.lookup x == some .cell, d.lam⟩ : ME) = me' at h1
    have m1 : me'.scope = d.scope := by rw [← hme]
    have m2 : me'.fre = if d.lam then bind0 (fun x => d.scope.names.lookup x == some .cell) qs Lc.nil else Lc.nil := by rw [← hme]
    have m3 : ∀ x, me'.own x = (!d.lam && d.scope.names.lookup x == some .cell) := fun x => by rw [← hme]
    have m4 : me'.lam = d.lam := by rw [← hme]
    have mk : ∀ x, me'.kind x = d.scope.names.lookup x := fun x => by unfold ME.kind; rw [m1]
    have ownMem : ∀ z ∈ ownOf (callEnvC fd s.heap.objs.size a) me', z = s.heap.objs.size ∨ (d.lam = false ∧ ∃ x, (x, z) ∈ cellsFrom (s.heap.objs.size + 1) fd.scope.names []) := fun z hz => by
      rcases List.mem_cons.mp hz with q | q
      · exact .inl q
      · obtain ⟨p, hp, rfl⟩ := List.mem_map.mp q
        obtain ⟨hp1, hp2⟩ := List.mem_filter.mp hp
        rw [m3, Bool.and_eq_true] at hp2
        exact .inr ⟨by simpa using hp2.1, p.1, hp1⟩
    have fresh : ∀ z ∈ ownOf (callEnvC fd s.heap.objs.size a) me', s.heap.get? z = none := fun z hz => by
      rcases ownMem z hz with rfl | ⟨_, x, hx⟩
      · exact fresh_size _
      · exact newc x z hx
    have cellOf : ∀ x, d.scope.names.lookup x = some .cell → ∃ c, (cellsFrom (s.heap.objs.size + 1) fd.scope.names []).lookup x = some c := fun x hx =>
      Option.isSome_iff_exists.mp (cellsFrom_some _ _ _ (.inl (by rw [e3]; exact hx)))
    have notL : ∀ x c, (cellsFrom (s.heap.objs.size + 1) fd.scope.names []).lookup x = some c → c ≠ s.heap.objs.size := fun x c hx => Nat.ne_of_gt (above x c (mem_of_lookup hx))
    have G' : GoodH B μ (ex' ++ I) st s₁.heap := X.good.more hk ex' hex
    have F' : FrOk B (callEnvC fd s.heap.objs.size a) me' (bind0 (fun x => d.scope.names.lookup x == some .local || (!d.lam && d.scope.names.lookup x == some .cell)) qs Lc.nil) μ (ex' ++ I) s₁.heap := by
      refine FrOk.fresh' X.good fresh (by rw [m1]; exact e3) (by rw [m1]; exact sk) (by rw [mk]; exact sdb) (by rw [mk]; exact scd) e4 e5 ?_ ⟨_, C.toInCall.ns, fun x mv hx e => ?_⟩ (fun x hx => ?_) (fun x hx => ?_) (fun x y c hx hy h1 h2 => ?_) (fun x mv hx => ?_) (fun x c _ hc => notL x c hc) (fun z hz => ?_) (fun z hz p hp => ?_) fun hl => ?_
      · obtain ⟨o, ho⟩ := X.fr.live _ own_locals
        exact Nat.le_of_lt (Nat.lt_of_le_of_lt X.fr.ab (Heap.lt_size ho))
      · refine bindL_rel (p := fun x => d.scope.names.lookup x = some .local) (fun z hz => ?_) hb' (lc := Lc.nil) (fun _ _ _ e => nomatch e) x mv (by rw [← mk]; exact hx) e
        rw [hkind, hz]; simp
      · rw [mk] at hx
        rcases hx with q | q
        · obtain ⟨c, hc⟩ := cellOf x q
          rw [hcells, hc]; rfl
        · exact absurd rfl (F.nofree (x, .free) (mem_of_lookup q))
      · rw [m3, Bool.and_eq_true] at hx
        have hl : d.lam = false := by simpa using hx.1
        have hc : d.scope.names.lookup x = some .cell := by simpa using hx.2
        obtain ⟨c, hcc⟩ := cellOf x hc
        refine ⟨by rw [mk]; exact hc, c, _, hcc, C.cell x c hcc, fun mv e => ?_⟩
        refine bindC_rel (p := fun x => d.scope.names.lookup x = some .cell) (fun z hz => ?_) hb' (lc := Lc.nil) (fun _ _ _ e => nomatch e) x mv hc e
        rw [hkind, hz, hl]; simp
      · exact name_of_addr C.apart (mem_of_lookup h1) (mem_of_lookup h2)
      · rw [m2] at hx
        split at hx
        · rename_i hl
          rcases bind0_kb hx with q | q
          · cases q
          · have hc : d.scope.names.lookup x = some .cell := by simpa using q
            obtain ⟨c, hcc⟩ := cellOf x hc
            obtain ⟨v, hv1, hv2⟩ := bindC_rel (kind := (callEnvC fd s.heap.objs.size a).kindOf) (p := fun x => d.scope.names.lookup x = some .cell) (fun z hz => by rw [hkind, hz]; simp) hb' (m := fun _ => none) (lc := Lc.nil) (fun _ _ _ e => nomatch e) x mv hc hx
            refine ⟨by rw [m3, hl]; rfl, c, v, hcc, by rw [← hv1]; exact C.cell x c hcc, hv2, fun hm => ?_⟩
            rcases ownMem c hm with q | ⟨q, _⟩
            · exact notL x c hcc q
            · rw [hl] at q; cases q
        · cases hx
      · rcases ownMem z hz with rfl | ⟨_, x, hx⟩
        · obtain ⟨o, _, _, e, _⟩ := C.toInCall.ns
          exact ⟨o, e⟩
        · obtain ⟨c, hc⟩ := cellOf x (by
            rcases cells_mem _ _ _ hx with q | q
            · rw [← e3]; exact lookup_nodup (by rw [e3]; exact snd) q
            · cases q)
          have hz2 : c = z := by
            have := lookup_nodup (cells_nodup fd.scope.names (s.heap.objs.size + 1) (by rw [e3]; exact snd)) hx
            rw [hc] at this; exact Option.some.inj this
          obtain ⟨o, ho, _⟩ := C.cell x c hc
          exact ⟨o, hz2 ▸ ho⟩
      · intro e
        rcases List.mem_append.mp hp with q | q
        · have hl : d.lam = true := by
            simp only [ex'] at q
            split at q
            · assumption
            · cases q
          rcases ownMem z hz with rfl | ⟨q', _⟩
          · simp only [ex', hl, if_true] at q
            obtain ⟨x, hx, _⟩ := cellLed_mem q
            exact Nat.ne_of_gt (above x _ hx) e
          · rw [hl] at q'; cases q'
        · have := X.good.imm p q
          rw [e, fresh z hz] at this; cases this
      · rw [m4] at hl
        obtain ⟨l1, l2⟩ := hlam hl
        refine ⟨l1, ?_, fun x mv hx => ?_⟩
        · show fd.qualname ++ ".<locals>." ++ "<lambda>" = lamQual
          rw [l2]; rfl
        · rw [m2, if_pos hl] at hx
          rcases bind0_kb hx with q | q
          · cases q
          · have hc : d.scope.names.lookup x = some .cell := by simpa using q
            obtain ⟨c, hcc⟩ := cellOf x hc
            obtain ⟨v, hv1, hv2⟩ := bindC_rel (kind := (callEnvC fd s.heap.objs.size a).kindOf) (p := fun x => d.scope.names.lookup x = some .cell) (fun z hz => by rw [hkind, hz]; simp) hb' (m := fun _ => none) (lc := Lc.nil) (fun _ _ _ e => nomatch e) x mv hc hx
            obtain ⟨o, ho, hdo⟩ := C.cell x c hcc
            refine ⟨c, o, v, hcc, List.mem_append_left _ ?_, by rw [hdo, hv1], hv2⟩
            simp only [ex', hl, if_true]
            exact mem_cellLed (mem_of_lookup hcc) ho
    refine sim_exs ex (hR.deeper _) h1 (At.here G' F') fun v s' μ' I' X' l' hvf => ?_
    have X2 : At B env me lc st1 μ' I' s₀ μ₀ I₀ s' := by
      have := X.inner ((Ext.more hk ex' fun p hp => (hex p hp).1).trans X'.ext) fresh X'.good s'.toks
      obtain ⟨h', tk, hs⟩ := C.toInCall.same
      rw [show s' = { s with heap := s'.heap, toks := s'.toks } from by rw [X'.same, hs]]
      exact this
    have l2 := le.trans l'
    clear C F' G' hex fresh ownMem notL cellOf newc above hb' hb le ex' hk hcells hL hbind par h1 X' X l' F
    exact k _ s' μ' I' X2 l2 hvf.val
end
end Mine
end
section
open PySem PySem.W PySem.Calls PyProof.Rows PySem.Spec
namespace Mine

section
variable {B : Base} {R : Rec} {n : Nat} {K : Frag} {env : Env} {me : ME} {lc lc' : Lc} {st st' : St} {μ μ' μ₀ : List Addr} {I I' I₀ : Led} {s s' s₀ : Shared} {A : Around} {E : Value → Shared → Prop}

theorem bind0_eq {kb : Str → Bool} : ∀ (q : List (Str × MV)) (lc : Lc) (x : Str), bind0 kb q lc x = if kb x = true then (match q.reverse.lookup x with | some m => some m | none => lc x) else lc x
  | [], lc, x => by show lc x = _; split <;> rfl
  | (y, m) :: q, lc, x => by
    rw [bind0_step]
    rw [bind0_eq q]
    rw [List.reverse_cons, List.lookup_append]
    by_cases hx : kb x = true
    · rw [if_pos hx, if_pos hx]
      cases hq : q.reverse.lookup x with
      | some v => rfl
      | none =>
        simp only [Option.none_or]
        by_cases e : x = y
        · subst e
          rw [if_pos hx]
          simp [Lc.set]
        · rw [List.lookup_cons, beq_eq_false_iff_ne.mpr e]
          simp only [List.lookup_nil]
          split
          · simp [Lc.set, e]
          · rfl
    · rw [if_neg hx, if_neg hx]
      split
      · rename_i hy
        have : x ≠ y := fun e => hx (e ▸ hy)
        simp [Lc.set, this]
      · rfl

theorem VB.append {b b' : List (Str × Value)} {q q' : List (Str × MV)} (h : VB I μ b q) (h' : VB I μ b' q') : VB I μ (b ++ b') (q ++ q') := by
  induction h with
  | nil => exact h'
  | cons hv _ ih => exact .cons hv ih
theorem VB.reverse {b : List (Str × Value)} {q : List (Str × MV)} (h : VB I μ b q) : VB I μ b.reverse q.reverse := by
  induction h with
  | nil => exact .nil
  | cons hv _ ih =>
    rw [List.reverse_cons, List.reverse_cons]
    exact ih.append (.cons hv .nil)
theorem VB.look {b : List (Str × Value)} {q : List (Str × MV)} (h : VB I μ b q) (x : Str) {m : MV} (e : q.lookup x = some m) : ∃ v, b.lookup x = some v ∧ V I μ v m := by
  induction h with
  | nil => cases e
  | @cons y v m' r q' hv _ ih =>
    by_cases hx : x = y
    · subst hx
      simp only [List.lookup_cons, beq_self_eq_true, Option.some.injEq] at e ⊢
      subst e
      exact ⟨v, rfl, hv⟩
    · rw [List.lookup_cons, beq_eq_false_iff_ne.mpr hx] at e ⊢
      exact ih e

theorem VF.look : ∀ {cl : List (Str × Addr)} {q : List (Str × MV)} (_ : VF I μ cl q) (x : Str) {m : MV} (_ : q.lookup x = some m), ∃ c o v, cl.lookup x = some c ∧ (c, o) ∈ I ∧ o.data = .cell (some v) ∧ V I μ v m := by
  intro cl q h x m
  refine h.ind (P := fun q => q.lookup x = some m → ∃ c o v, cl.lookup x = some c ∧ (c, o) ∈ I ∧ o.data = .cell (some v) ∧ V I μ v m) (fun e => no_some e) fun {y c o v _ r} h1 h2 h3 h4 _ ih e => ?_
  · by_cases hx : x = y
    · subst hx
      simp only [List.lookup_cons, beq_self_eq_true, Option.some.injEq] at e
      subst e
      exact ⟨c, o, v, h1, h2, h3, h4⟩
    · rw [List.lookup_cons, beq_eq_false_iff_ne.mpr hx] at e
      exact ih e

theorem call_lam (okk : Ok B K) (ev : EvS B R n) (hR : Room A (n + 1)) {fv : Value} {ps : Arguments} {body : Expr} {scope : Scope} {fre : List (Str × MV)} {args : List MV} {vs : List Value} {r : MV} {Q : Value → Shared → Prop}
    (h : callF B.P R (.lam ps body scope fre) args st = some (r, st')) (hf : V I μ fv (.lam ps body scope fre)) (hv : VS I μ vs args) (X : At B env me lc st μ I s₀ μ₀ I₀ s)
    (k : Kont B env me lc st' μ I s₀ μ₀ I₀ r Q) : wpAny B.M A (call fv vs) Q E s := by
  obtain ⟨hc, h⟩ := ifS h
  · simp only [Bool.and_eq_true, decide_eq_true_eq] at hc
    obtain ⟨⟨⟨⟨hlen, hsc⟩, hpl⟩, hcell⟩, hloc⟩ := hc
    obtain ⟨sk, sg, sco, snd, sdb, scd⟩ := scopeOk_spec hsc
    · obtain ⟨f, c', oc, qual, t, ws, cl, pm, ctv, rfl, m1, m2, h3, h4, h5, h6⟩ := hf.inv
      have g1 := X.good.imm _ m1
      have g2 := X.good.imm _ m2
      refine wpAny_call (kla_callFunE hR.depth g1 rfl sco sg rfl ⟨c', oc, ws, t, rfl, g2, h3, h4⟩ ?_)
      have hbind : bindArgs (kla_fn "<lambda>" qual ps body scope cl pm (.ref c') ctv) ⟨vs, []⟩ = pure ((ps.args.map (·.arg)).zip vs) := bindArgs_plain rfl hpl (by rw [hlen, hv.length])
      rw [hbind]
      refine wpAny_pure (wpAny_newFunctionEnv (fun p hp e => ?_) (fun p hp => ?_) (fun h' hn hs => ?_) sk)
      · have := List.all_eq_true.mp hcell p hp
        rw [show p.2 = NameKind.cell from e] at this
        cases this
      · obtain ⟨a, ha, e⟩ := List.mem_map.mp (List.of_mem_zip hp).1
        have := List.all_eq_true.mp hloc a ha
        rw [← e]; simpa using this
      · have hk : ∀ b o, s.heap.get? b = some o → h'.get? b = some o := fun b o e => (hs.2 b (Nat.ne_of_lt (Heap.lt_size e))).trans (Heap.get?_push_of_some _ e)
        refine ⟨(okk.lim.keeps X.good.base).keeps hk, kla_codeExpr ?_⟩
        have noC : ∀ x, scope.names.lookup x ≠ some .cell := fun x e => by
          have := List.all_eq_true.mp hcell _ (mem_of_lookup e)
          cases this
        have hb : VB I μ ((ps.args.map (·.arg)).zip vs) ((ps.args.map (·.arg)).zip args) := VB.zip hv
        have FR : FrOk B (newEnv scope s.heap.objs.size mainGlobals cl (qual ++ ".<locals>.") (some f) (.ref c') none builtinsNs) ⟨scope, fun x => fre.lookup x, fun _ => false, false⟩
            (bind0 (fun x => scope.names.lookup x == some .local) ((ps.args.map (·.arg)).zip args) Lc.nil) μ I h' := by
          have ownMem : ∀ z ∈ ownOf (newEnv scope s.heap.objs.size mainGlobals cl (qual ++ ".<locals>.") (some f) (.ref c') none builtinsNs) ⟨scope, fun x => fre.lookup x, fun _ => false, false⟩, z = s.heap.objs.size := fun z hz => by
            rcases List.mem_cons.mp hz with q | q
            · exact q
            · obtain ⟨p, hp, _⟩ := List.mem_map.mp q
              exact absurd (List.mem_filter.mp hp).2 Bool.false_ne_true
          refine FrOk.fresh X.good hk (fun z hz => by rw [ownMem z hz]; exact fresh_size _) rfl sk sdb scd rfl rfl ?_ ⟨_, hn, fun x mv hx e => ?_⟩ (fun x hx => ?_) (fun x hx => nomatch hx) (fun x y c hx => nomatch hx) (fun x mv hx => ?_) (fun x c hx => nomatch hx) (fun z hz => ?_) (fun hl => nomatch hl)
          · obtain ⟨o, ho⟩ := X.fr.live _ own_locals
            exact Nat.le_of_lt (Nat.lt_of_le_of_lt X.fr.ab (Heap.lt_size ho))
          · rw [bind0_eq] at e
            split at e
            · split at e
              · rename_i m hm
                cases e
                exact hb.reverse.look x hm
              · cases e
            · cases e
          · rcases hx with q | q
            · exact absurd q (noC x)
            · exact h6 x q
          · obtain ⟨c, o, v, a1, a2, a3, a4⟩ := h5.look x hx
            exact ⟨rfl, c, v, a1, ⟨o, X.good.imm _ a2, a3⟩, a4⟩
          · rw [ownMem z hz]
            obtain ⟨o, _, _, e, _⟩ := hn
            exact ⟨o, e⟩
        have G' := X.good.grow hk
        refine ev h (hR.deeper _) (s := { s with heap := h', toks := s.toks + ((ps.args.map (·.arg)).zip vs).length }) (At.here (s := { s with heap := h', toks := s.toks + ((ps.args.map (·.arg)).zip vs).length }) G' FR) fun v s' μ' I' X' l' hv' => ?_
        have fresh : ∀ a ∈ ownOf (newEnv scope s.heap.objs.size mainGlobals cl (qual ++ ".<locals>.") (some f) (.ref c') none builtinsNs) ⟨scope, fun x => fre.lookup x, fun _ => false, false⟩, s.heap.get? a = none := fun z hz => by
          rcases List.mem_cons.mp hz with q | q
          · rw [q]; exact fresh_size _
          · obtain ⟨p, hp, _⟩ := List.mem_map.mp q
            exact absurd (List.mem_filter.mp hp).2 Bool.false_ne_true
        have X2 : At B env me lc st' μ' I' s₀ μ₀ I₀ s' := by
          have := X.inner ((Ext.grow hk).trans X'.ext) fresh X'.good s'.toks
          rw [show s' = { s with heap := s'.heap, toks := s'.toks } from by rw [X'.same]]
          exact this
        exact k v s' μ' I' X2 l' hv'

theorem call_class (okk : Ok B K) (cd : CodeS B R n) (hR : Room A (n + 1)) {C : Nat} {args : List MV} {vs : List Value} {r : MV} {Q : Value → Shared → Prop}
    (h : callF B.P R (.cls C) args st = some (r, st')) (hv : VS I μ vs args) (X : At B env me lc st μ I s₀ μ₀ I₀ s)
    (k : Kont B env me lc st' μ I s₀ μ₀ I₀ r Q) : wpAny B.M A (call (.ref C) vs) Q E s := by
  obtain ⟨i, hi, h⟩ := bind_some (show (B.P.init C).bind _ = some (r, st') from h)
  refine bindE h fun w st1 h1 h => ?_
  obtain ⟨hw, h⟩ := ifS h
  obtain rfl := isNoneM_eq hw
  obtain ⟨rfl, rfl⟩ := some2 h
  clear hw
  obtain ⟨a1, a2, a3⟩ := okk.init C i hi
  have KI : K.In s.heap := okk.kin.keeps X.good.base
  obtain ⟨hh, g, d, t, os⟩ := s
  refine wpAny_call (make_core (makes_of KI a1) (looks_findIn KI a2) (fun self => bind_fn KI self (beq_iff_eq.mp a3)) (.inl rfl) ?_)
  obtain ⟨X1, l1, e1⟩ := X.loc (h' := hh.push emptyDict) (mo := .inst []) (fun _ _ e => Heap.get?_push_of_some _ e) (fresh_size _) ⟨[], 0, Heap.get?_push_size _ rfl, .nil⟩ t
  obtain ⟨X2, l2⟩ := X1.pushI (o := instObj C hh.objs.size) rfl t
  have sz : (hh.push emptyDict).objs.size = hh.objs.size + 1 := Heap.size_push ..
  have hx : (hh.objs.size + 1, instObj C hh.objs.size) ∈ ((hh.push emptyDict).objs.size, instObj C hh.objs.size) :: I := by rw [sz]; exact .head _
  refine cd h1 (hR.under C vs []) X2 (.cons (.ins hx (l2.get _ _ e1)) (l2.VS (l1.VS hv))) fun v s' μ' I' X' l' hv' => ?_
  obtain rfl := hv'.inv
  exact ⟨rfl, k _ s' μ' I' X' (l1.trans (l2.trans l')) (.ins (l'.sub _ hx) (l'.get _ _ (l2.get _ _ e1)))⟩

theorem step_call (okk : Ok B K) (ev : EvS B R n) (ex : ExS B R n) (cd : CodeS B R n) : CallS B (stepR B.P R) (n + 1) := by
  intro f args st mv st' h fv vs me lc env A s s₀ μ₀ μ I₀ I Q E hR X hf hv k
  have h : callF B.P R f args st = some (mv, st') := h
  induction f using MV.casesOn with
  | fn a =>
    obtain rfl := hf.inv
    exact wpAny_call (step_code okk ex h hR X hv k)
  | lam ps body scope fre => exact call_lam okk ev hR h hf hv X k
  | cls C =>
    obtain rfl := hf.inv
    exact call_class okk cd hR h hv X k
  | bi b =>
    obtain rfl := hf.inv
    exact sim_callB okk.big hR.hh h hv X k
  | _ => exact no_some h
end
end Mine
end
section
open PySem PySem.W PySem.Calls PyProof.Rows PySem.Spec
namespace Mine

set_option backward.match.sparseCases true in
theorem among_snoc {pos : Pos} {a b : Int} {c cv : Value} : ∀ (l : List Value), TriplesOk l → codeAmong pos (l ++ [rawInt a, rawInt b, c]) = some cv → codeAmong pos l = some cv ∨ cv = c
  | [], _, h => by
    simp only [List.nil_append, codeAmong, rawInt] at h
    split at h
    · cases h; exact .inr rfl
    · cases h
  | .int x t :: .int y u :: v :: r, hl, h => by
    simp only [List.cons_append, codeAmong] at h ⊢
    split at h
    · rename_i hc
      rw [if_pos hc]
      exact .inl h
    · rename_i hc
      rw [if_neg hc]
      exact among_snoc r hl h

section
variable {B : Base} {R : Rec} {n : Nat} {K : Frag} {env : Env} {me : ME} {lc lc' : Lc} {st st' : St} {μ μ' μ₀ : List Addr} {I I' I₀ : Led} {s s' s₀ : Shared} {A : Around} {E : Value → Shared → Prop}

theorem plain_defaults {ps : Arguments} (h : plainParams ps = true) : defaultsOf ps env = ([], []) := by
  unfold plainParams at h
  simp only [Bool.and_eq_true] at h
  obtain ⟨⟨⟨⟨⟨⟨h1, h2⟩, h3⟩, h4⟩, h5⟩, h6⟩, h7⟩ := h
  obtain ⟨a, b, c, d, e, f, g⟩ := ps
  obtain rfl := isEmpty_eq h4
  obtain rfl := isEmpty_eq h6
  rfl

/-- the heap after a lambda is made: its function object, its code object, the table -/
theorem At.made {h2 : Heap} (X : At B env me lc st μ I s₀ μ₀ I₀ s) (h0 : B.hb.get? B.tab = none) (ex : Led) (hk : ∀ b o, b ≠ B.tab → s.heap.get? b = some o → h2.get? b = some o)
    (hex : ∀ p ∈ ex, s.heap.get? p.1 = none ∧ h2.get? p.1 = some p.2) (hT : TabOk B (ex ++ I) h2) (tk : Nat) :
    At B env me lc st μ (ex ++ I) s₀ μ₀ I₀ { s with heap := h2, toks := tk } ∧ Le μ I μ (ex ++ I) := by
  have G := X.good
  have sub : ∀ p ∈ I, p ∈ ex ++ I := fun p hp => List.mem_append_right _ hp
  have x : Ext B [] μ I s.heap μ (ex ++ I) h2 := ⟨⟨[], by simp⟩, sub, fun b o e _ ht _ => hk b o ht e, fun b o e => by
    by_cases q : b = B.tab
    · obtain ⟨o', e'⟩ := hT.at_
      exact ⟨_, q ▸ e'.1⟩
    · exact ⟨o, hk b o q e⟩, fun _ e => .inl e, fun p hp => by
    rcases List.mem_append.mp hp with q | q
    · exact .inr (hex p q).1
    · exact .inl q⟩
  refine ⟨X.step (x.weak fun _ q => nomatch q) ⟨fun b o e => hk b o (fun q => by rw [q, h0] at e; cases e) (G.base b o e), fun p hp => ?_, G.len,
    fun l a mo h1 h2' => (G.rep l a mo h1 h2').mono sub (fun _ _ e => e) (fun o e => hk _ o (fun q => G.offT (q ▸ List.mem_of_getElem? h1)) e), G.nodup, G.offB, fun a ha p hp => ?_, G.offT, fun p hp => ?_, hT⟩ (X.fr.ext G x), sub, fun _ _ e => e⟩
  · rcases List.mem_append.mp hp with q | q
    · exact (hex p q).2
    · exact hk _ _ (G.tabI p q) (G.imm p q)
  · rcases List.mem_append.mp hp with q | q
    · intro e
      obtain ⟨o, ho⟩ := G.liveμ ha
      rw [← e, (hex p q).1] at ho; cases ho
    · exact G.offI a ha p q
  · rcases List.mem_append.mp hp with q | q
    · intro e
      obtain ⟨o, ho⟩ := G.liveT
      rw [← e, (hex p q).1] at ho; cases ho
    · exact G.tabI p q

theorem VF_captured (F : FrOk B env me lc μ I s.heap) (hl : me.lam = true) {scope : Scope} (O : InnerOk me scope) (ho : scope.names.all (fun p => p.2 != .free || !me.own p.1) = true) :
    VF I μ (closeOf (fun z => env.cells.lookup z) scope.names []) (captured me lc scope) := by
  have main : ∀ (names : List (Str × NameKind)), (∀ p ∈ names, p ∈ scope.names) → VF I μ (closeOf (fun z => env.cells.lookup z) scope.names []) (names.filterMap fun x => if x.2 = .free then (capture me lc scope x.1).map (x.1, ·) else Option.none) := by
    intro names
    induction names with
    | nil => intro _; exact .nil
    | cons p r ih =>
      intro hp
      have ih := ih fun q hq => hp q (.tail _ hq)
      rw [List.filterMap_cons]
      by_cases hf : p.2 = .free
      · rw [if_pos hf]
        cases hc : capture me lc scope p.1 with
        | none => exact ih
        | some mv =>
          have hlook : scope.names.lookup p.1 = some .free := lookup_nodup O.nd (by rw [← hf]; exact hp p (.head _))
          have hown : me.own p.1 = false := by
            have := List.all_eq_true.mp ho p (hp p (.head _))
            rw [hf] at this
            simpa using this
          have hfre : me.fre p.1 = some mv := by
            unfold capture at hc
            rw [if_pos hlook] at hc
            split at hc
            · rw [hown] at hc; simpa using hc
            · exact hc
            · cases hc
          obtain ⟨_, _, h3⟩ := F.lam hl
          obtain ⟨c, o, v, a1, a2, a3, a4⟩ := h3 p.1 mv hfre
          refine .cons ?_ a2 a3 a4 ih
          rw [close_lookup _ _ _ O.nd, if_pos hlook, a1]
          rfl
      · rw [if_neg hf]
        exact ih
  exact main scope.names fun _ h => h

theorem ev_lambda (okk : Ok B K) {ps : Arguments} {body : Expr} {scope : Scope} {pos : Pos} {Q : Value → Shared → Prop} (hl : me.lam = true) (O : InnerOk me scope) (ho : scope.names.all (fun p => p.2 != .free || !me.own p.1) = true) (hp : plainParams ps = true)
    (X : At B env me lc st μ I s₀ μ₀ I₀ s) (k : Kont B env me lc st μ I s₀ μ₀ I₀ (.lam ps body scope (captured me lc scope)) Q) : wpAny B.M A (eval (.Lambda ps body scope pos) env) Q E s := by
  have F := X.fr
  obtain ⟨l1, l2, _⟩ := F.lam hl
  obtain ⟨tps, t1, t2, t3⟩ := X.good.tab.at_
  have hcl := closure_eq (inner_cells F O)
  have hg : s.heap.Ns mainGlobals B.mg := okk.ng.keeps X.good.base
  have hb : s.heap.BuiltinsAt B.mg B.tab := by
    obtain ⟨bm, o, a1, a2, a3, a4, a5, a6⟩ := okk.bmain
    exact ⟨bm, o, a1, a2, a3, a4, X.good.base _ _ a5, a6⟩
  have hgP : mainGlobals ≠ B.tab := fun e => by
    obtain ⟨o, _, _, e', _⟩ := okk.ng
    rw [e, okk.tab0] at e'; cases e'
  have free : ∀ x, scope.names.lookup x = some .free → ((closeOf (fun z => env.cells.lookup z) scope.names []).lookup x).isSome = true := fun x hx => by
    rw [close_lookup _ _ _ O.nd, if_pos hx]; rfl
  have VFc := VF_captured F hl O ho
  refine kla_eval (plain_defaults hp) ?_
  rw [l2]
  cases hq : codeAmong pos tps.toList with
  | none =>
    refine kla_makeFunction hcl F.gl hg l1 (okk.head.keeps X.good.base) t1 t2 hq hgP hb fun c' ctv h' tk hx hge hlt hrec htb => ?_
    obtain ⟨c2, oc, ws, t, e1, hoc, hd, hw⟩ := hrec
    cases e1
    have nf : s.heap.get? h'.objs.size = none := Heap.get?_none_of_le (Nat.le_trans hge (Nat.le_of_lt hlt))
    have nc : s.heap.get? c' = none := Heap.get?_none_of_le hge
    obtain ⟨X', le⟩ := X.made okk.tab0 [(h'.objs.size, kla_obj "<lambda>" lamQual ps body scope (closeOf (fun z => env.cells.lookup z) scope.names []) ((B.mg "__name__").getD .none) c' ctv), (c', oc)]
      (h2 := h'.push (kla_obj "<lambda>" lamQual ps body scope (closeOf (fun z => env.cells.lookup z) scope.names []) ((B.mg "__name__").getD .none) c' ctv))
      (fun b o hb e => Heap.get?_push_of_some _ (hx b o hb e))
      (fun p hp => by
        rcases List.mem_cons.mp hp with rfl | hp
        · exact ⟨nf, Heap.get?_push_size _ rfl⟩
        · rw [List.mem_singleton.mp hp]
          exact ⟨nc, Heap.get?_push_of_some _ hoc⟩)
      ⟨⟨_, Heap.get?_push_of_some _ htb, by
          rw [Array.toList_append]
          exact TriplesOk_snoc _ _ _ _ t2, fun pos' cv hcv => by
          rw [Array.toList_append] at hcv
          rcases among_snoc _ t2 hcv with q | q
          · obtain ⟨c3, oc3, w3, t3', a1, a2, a3⟩ := t3 pos' cv q
            exact ⟨c3, oc3, w3, t3', a1, List.mem_append_right _ a2, a3⟩
          · exact ⟨c', oc, ws, t, q, .tail _ (.head _), hd, hw⟩⟩⟩ tk
    exact k _ _ _ _ X' le (.lam (.head _) (.tail _ (.head _)) hd hw (VFc.mono le.sub le.get) free)
  | some cv =>
    obtain ⟨c', oc, ws, t, rfl, hoc, hd, hw⟩ := t3 pos cv hq
    refine kla_makeFunctionHit hcl F.gl hg l1 (okk.head.keeps X.good.base) t1 t2 hq hb fun ctv h' tk hk hsz => ?_
    have X1 := X.grow hk tk
    obtain ⟨X', le⟩ := X1.pushI (o := kla_obj "<lambda>" lamQual ps body scope (closeOf (fun z => env.cells.lookup z) scope.names []) ((B.mg "__name__").getD .none) c' ctv) rfl tk
    exact k _ _ _ _ X' le (.lam (.head _) (.tail _ hoc) hd hw (VFc.mono le.sub le.get) free)
end
end Mine
end
section
open PySem PySem.W PySem.Calls PyProof.Rows PySem.Spec
namespace Mine

structure All (B : Base) (R : Rec) (n : Nat) : Prop where
  ev : EvS B R n
  tr : TrS B R n
  ex : ExS B R n
  call : CallS B R n
  code : CodeS B R n
  loop : LoopS B R n
  whil : WhilS B R n
  comp : CompS B R n
  use : UseS B R n

section
variable {B : Base} {R : Rec} {n : Nat} {K : Frag} {env : Env} {me : ME} {lc lc' : Lc} {st st' : St} {μ μ' μ₀ : List Addr} {I I' I₀ : Led} {s s' s₀ : Shared} {A : Around} {E : Value → Shared → Prop}

theorem any_decide {es : List Expr} {n : Nat} (h : ¬ (es.any isStarred || decide (n < es.length)) = true) : es.any isStarred = false ∧ es.length ≤ n := by
  simp only [Bool.or_eq_true, decide_eq_true_eq, not_or, Bool.not_eq_true] at h
  exact ⟨h.1, by omega⟩

theorem compE_inv {elt : Expr} {gens : List Comprehension} {scope : Scope} {mv : MV} (h : compE R elt gens scope me lc st = some (mv, st')) :
    ∃ t it ifs v st1 i vs, (innerOk me scope = true ∧ isSet it = false) ∧ gens = [⟨t, it, ifs, 0⟩] ∧ R.ev it me lc st = some (v, st1) ∧ itOf v st1 = some i ∧
      R.comp elt t ifs i [] ⟨relabelM me scope, capture me lc scope, fun x => scope.names.lookup x == some .cell, false⟩ Lc.nil st1 = some (vs, st') ∧ mv = .lst vs := by
  unfold compE at h
  cases hg : genE gens with
  | none => rw [hg] at h; exact no_some h
  | some q =>
    rw [hg] at h
    obtain rfl := genE_eq hg; clear hg
    obtain ⟨hs, g0⟩ := ifS h
    simp only [Bool.and_eq_true, Bool.not_eq_true'] at hs
    refine bindE g0 fun v st1 h1 g => ?_
    obtain ⟨i, h2, g2⟩ := bind_some g; clear g
    obtain ⟨⟨vs, st2⟩, h3, e⟩ := map_some g2; clear g2
    obtain ⟨rfl, rfl⟩ := some2 (congrArg some e)
    exact ⟨_, _, _, v, st1, i, vs, hs, rfl, h1, h2, h3, rfl⟩

/-- what an expression's evaluation has to do, as one proposition -/
noncomputable def EvG (B : Base) (A : Around) (env : Env) (e : Expr) (me : ME) (lc : Lc) (st : St) (mv : MV) (st' : St) : Prop := ∀ (s s₀ : Shared) (μ₀ μ : List Addr) (I₀ I : Led) (Q E : Value → Shared → Prop),
  At B env me lc st μ I s₀ μ₀ I₀ s → Kont B env me lc st' μ I s₀ μ₀ I₀ mv Q → wpAny B.M A (eval e env) Q E s

theorem g_rep (ev : EvS B R n) (hR : Room A n) {e r : Expr} {p p' : Pos} {mv : MV}
    (h : (if isStarred e then Option.none else (R.ev e me lc st).bind fun x => (R.ev r me lc x.2).bind fun y => (asIntM y.1).bind fun n => if 0 ≤ n ∧ n ≤ 1048576 then some (MV.loc y.2.length, y.2 ++ [.list (List.replicate n.toNat x.1)]) else Option.none) = some (mv, st')) :
    EvG B A env (.BinOp (.List [e] p) .Mult r p') me lc st mv st' := by
  obtain ⟨hs, g0⟩ := ifN h
  clear h
  refine bindE g0 fun m st1 h1 g => ?_
  refine bindE g fun x st2 h2 g2 => ?_
  obtain ⟨i, hi, g3⟩ := bind_some g2
  obtain ⟨hb, g4⟩ := ifS g3
  obtain rfl := asIntM_eq hi
  obtain ⟨rfl, rfl⟩ := some2 g4
  clear g0 g g2 g3 g4 hi
  exact fun _ _ _ _ _ _ _ _ X k => ev_times ev hR (by simpa using hs) h1 h2 hb.1 hb.2 X k

theorem g_bin (ev : EvS B R n) (hR : Room A n) {l r : Expr} {op : Operator} {p : Pos} {mv : MV} (h : ((R.ev l me lc st).bind fun x => (R.ev r me lc x.2).bind fun y => bop op x.1 y.1 y.2) = some (mv, st')) : EvG B A env (.BinOp l op r p) me lc st mv st' := by
  refine bindE h fun x st1 h1 g => ?_
  refine bindE g fun y st2 h2 h => ?_
  intro s s₀ μ₀ μ I₀ I Q E X k
  refine wpAny_BinOp (ev h1 hR X fun v1 s1 μ1 I1 X1 l1 hv1 => ev h2 hR X1 fun v2 s2 μ2 I2 X2 l2 hv2 => ?_)
  exact sim_bop h (l2.V hv1) hv2 X2 fun v s' μ' I' X' l' => k v s' μ' I' X' (l1.trans (l2.trans l'))

theorem g_binF (ev : EvS B R n) (hR : Room A n) {l r : Expr} {op : Operator} {p : Pos} {mv : MV} (h : binF R l op r me lc st = some (mv, st')) : EvG B A env (.BinOp l op r p) me lc st mv st' := by
  unfold binF at h
  cases ht : timesE l op with
  | some e =>
    rw [ht] at h
    obtain ⟨q, rfl, rfl⟩ := timesE_eq ht
    exact g_rep ev hR h
  | none =>
    rw [ht] at h
    exact g_bin ev hR h

theorem g_not (ev : EvS B R n) (hR : Room A n) {x : Expr} {p : Pos} {mv : MV} (h : ((R.ev x me lc st).bind fun x => (asBoolM x.1).bind fun b => some (MV.bool (!b), x.2)) = some (mv, st')) : EvG B A env (.UnaryOp .Not x p) me lc st mv st' := by
  refine bindE h fun x st1 h1 g => ?_
  obtain ⟨i, hi, g2⟩ := bind_some g
  obtain rfl := asBoolM_eq hi
  obtain ⟨rfl, rfl⟩ := some2 g2
  clear h g g2 hi
  intro s s₀ μ₀ μ I₀ I Q E X k
  refine UnaryOp_ (ev h1 hR X fun v1 s1 μ1 I1 X1 l1 hv1 => ?_)
  obtain rfl := hv1.inv
  exact not_of (wpAny_truthy_bool (k _ s1 μ1 I1 X1 l1 (.bool _)))

theorem g_neg (ev : EvS B R n) (hR : Room A n) {x : Expr} {p : Pos} {mv : MV} (h : ((R.ev x me lc st).bind fun x => (asIntM x.1).bind fun b => some (MV.int (-b), x.2)) = some (mv, st')) : EvG B A env (.UnaryOp .USub x p) me lc st mv st' := by
  refine bindE h fun x st1 h1 g => ?_
  obtain ⟨i, hi, g2⟩ := bind_some g
  obtain rfl := asIntM_eq hi
  obtain ⟨rfl, rfl⟩ := some2 g2
  clear h g g2 hi
  intro s s₀ μ₀ μ I₀ I Q E X k
  refine UnaryOp_ (ev h1 hR X fun v1 s1 μ1 I1 X1 l1 hv1 => ?_)
  obtain ⟨_, rfl⟩ := hv1.inv
  exact PyProof.Rows.neg_int (k _ _ μ1 I1 (X1.tok _) l1 (.int _ _))

theorem g_list (ev : EvS B R n) (hR : Room A n) {es : List Expr} {p : Pos} {mv : MV} (h : listF R es me lc st = some (mv, st')) : EvG B A env (.List es p) me lc st mv st' := by
  induction es using List.casesOn with
  | nil =>
    obtain ⟨rfl, rfl⟩ := some2 h
    exact fun _ _ _ _ _ _ _ _ X k => ev_listAt ev hR (es := []) rfl (Nat.zero_le _) evs_nil X k
  | cons e es =>
    obtain ⟨hs, g⟩ := ifN h
    obtain ⟨h5, h6⟩ := any_decide hs
    obtain ⟨⟨vs, st1⟩, h1, e1⟩ := map_some g
    clear h g hs
    by_cases hc : isComp e = true
    · obtain ⟨rfl, rfl⟩ := some2 (congrArg some ((if_pos hc).symm.trans e1))
      exact fun _ _ _ _ _ _ _ _ X k => ev_listAt ev hR h5 h6 h1 X k
    · obtain ⟨rfl, rfl⟩ := some2 (congrArg some ((if_neg hc).symm.trans e1))
      exact fun _ _ _ _ _ _ _ _ X k => ev_frozen ev hR h5 h6 h1 X k

theorem g_subd (okk : Ok B K) (ev : EvS B R n) (hR : Room A n) {ks : List (Option Expr)} {vs : List Expr} {dp : Pos} {i : Expr} {p : Pos} {mv : MV}
    (h : (if isSlice i || decide (15 < vs.length) || decide (vs.length = 0) then Option.none else (dictOf? R ks vs me lc st).bind fun x => (R.ev i me lc x.2).bind fun y => (asStrM y.1).bind fun k => (x.1.lookup k).map fun v => (v, y.2)) = some (mv, st')) :
    EvG B A env (.Subscript (.Dict ks vs dp) i p) me lc st mv st' := by
  obtain ⟨hz, g0⟩ := ifN h
  clear h
  simp only [Bool.or_eq_true, decide_eq_true_eq, not_or, Bool.not_eq_true] at hz
  obtain ⟨⟨hz1, hz2⟩, hz3⟩ := hz
  refine bindE g0 fun es st1 h1 g => ?_
  refine bindE g fun x st2 h2 g2 => ?_
  obtain ⟨y, hy, g3⟩ := bind_some g2
  obtain ⟨m, h3, e⟩ := map_some g3
  obtain rfl := asStrM_eq hy
  obtain ⟨rfl, rfl⟩ := some2 (congrArg some e)
  clear g0 g g2 g3 hy e
  intro s s₀ μ₀ μ I₀ I Q E X k
  refine Subscript_ (sim_dictDisplay okk.toTopOk ev hR (by omega) (by omega) h1 X fun d s1 μ1 I1 X1 l1 W n0 O => ?_)
  refine ev h2 hR X1.start fun vi s2 μ2 I2 X2 l2 hvi => ?_
  obtain ⟨o, ho⟩ := O.live
  obtain ⟨_, ho2⟩ := W.ext ho X2.ext
  have O2 : OH B I2 μ2 s2.heap d (.dict es) := O.mono l2.sub l2.get fun o' e => by rw [ho] at e; cases e; exact ho2
  exact sim_dget O2 hvi h3 hz1 fun v tk hv => k v _ μ2 I2 ((X1.trans X2).tok tk) (l1.trans l2) hv

theorem g_sub (okk : Ok B K) (ev : EvS B R n) (hR : Room A n) {v i : Expr} {p : Pos} {mv : MV} (h : subF R v i me lc st = some (mv, st')) : EvG B A env (.Subscript v i p) me lc st mv st' := by
  unfold subF at h
  cases hd : dictE v with
  | some q =>
    rw [hd] at h
    obtain rfl := dictE_eq hd
    exact g_subd okk ev hR h
  | none =>
    rw [hd] at h; clear hd
    replace h := show (match cutE i with
      | some q => (R.ev v me lc st).bind fun x => (evOpt R q.1 me lc x.2).bind fun y => (evOpt R q.2.1 me lc y.2).bind fun z => (sliceM x.1 y.1 z.1).map fun r => (r, z.2)
      | Option.none => if isSlice i then Option.none else (R.ev v me lc st).bind fun x => (R.ev i me lc x.2).bind fun y => (getItemM x.1 y.1 y.2).map fun r => (r, y.2)) = some (mv, st') from h
    cases hc : cutE i with
    | some q =>
      rw [hc] at h
      obtain rfl := cutE_eq hc; clear hc
      refine bindE h fun o st1 h1 g => ?_
      refine bindE g fun x st2 h2 g2 => ?_
      refine bindE g2 fun y st3 h3 g3 => ?_
      obtain ⟨m, h4, e⟩ := map_some g3; clear g g2 g3
      obtain ⟨rfl, rfl⟩ := some2 (congrArg some e)
      exact fun _ _ _ _ _ _ _ _ X k => ev_slice ev hR h1 h2 h3 h4 X k
    | none =>
      rw [hc] at h; clear hc
      obtain ⟨hs, g0⟩ := ifN h
      refine bindE g0 fun o st1 h1 g => ?_
      refine bindE g fun i st2 h2 g2 => ?_
      obtain ⟨m, h3, e⟩ := map_some g2
      obtain ⟨rfl, rfl⟩ := some2 (congrArg some e)
      clear h g0 g g2 e
      intro s s₀ μ₀ μ I₀ I Q E X k
      refine Subscript_ (ev h1 hR X fun vo s1 μ1 I1 X1 l1 ho => ev h2 hR X1 fun vi s2 μ2 I2 X2 l2 hi => ?_)
      exact sim_item h3 (l2.V ho) hi X2.good (by simpa using hs) fun v tk hv => k v _ μ2 I2 (X2.tok tk) (l1.trans l2) hv

theorem g_call (okk : Ok B K) (ev : EvS B R n) (call : CallS B R n) (hR : Room A n) {f : Expr} {args : List Expr} {ps : Pos} {mv : MV} (h : callE B.P R f args ps me lc st = some (mv, st')) : EvG B A env (.Call f args [] ps) me lc st mv st' := by
  unfold callE at h
  cases hf : attrE f with
  | some q =>
    rw [hf] at h
    obtain rfl := attrE_eq hf; clear hf
    obtain ⟨hs, g1⟩ := ifN h
    simp only [Bool.or_eq_true, decide_eq_true_eq, not_or, Bool.not_eq_true, bne_iff_ne, ne_eq, Decidable.not_not] at hs
    obtain ⟨⟨⟨hs1, hs2⟩, hs3⟩, hs4⟩ := hs
    refine bindE g1 fun o st1 h1 g => ?_
    exact fun _ _ _ _ _ _ _ _ X k => ev_meth okk.toDefOk ev call hR hs1 (Nat.not_lt.mp hs2) hs3 hs4 h1 g X k
  | none =>
    rw [hf] at h; clear hf
    obtain ⟨hs, g1⟩ := ifN h
    rw [Bool.or_eq_true, not_or] at hs
    obtain ⟨h5, h6⟩ := any_decide hs.2
    obtain ⟨x, q, rfl⟩ := name_of (by simpa using hs.1)
    refine bindE g1 fun f st1 h1 g => ?_
    obtain ⟨hc, g2⟩ := ifN g
    refine bindE g2 fun vs st2 h2 h => ?_
    exact fun _ _ _ _ _ _ _ _ X k => ev_call okk.toDefOk ev call hR h5 h1 (by simpa using hc) h2 h X k

theorem g_cmp (ev : EvS B R n) (hR : Room A n) {l : Expr} {ops : List CmpOp} {cs : List Expr} {p : Pos} {mv : MV} (h : (if cs.any isSet then Option.none else (R.ev l me lc st).bind fun x => (chain R x.1 ops cs me lc x.2).map fun y => (MV.bool y.1, y.2)) = some (mv, st')) :
    EvG B A env (.Compare l ops cs p) me lc st mv st' := by
  obtain ⟨hs, g0⟩ := ifN h
  refine bindE g0 fun x st1 h1 g => ?_
  obtain ⟨⟨b, st2⟩, h2, e⟩ := map_some g
  obtain ⟨rfl, rfl⟩ := some2 (congrArg some e)
  clear h g0 g e
  intro s s₀ μ₀ μ I₀ I Q E X k
  rw [arm_eval_Compare]
  refine wpAny_bind (ev h1 hR X fun v1 s1 μ1 I1 X1 l1 hv1 => ?_)
  rw [marked_plain (by simpa using hs)]
  exact wpAny_mono (sim_chain ev hR (Q := fun b s' => Q (.bool b) s') h2 hv1 X1 fun s' μ' I' X' l' => k _ s' μ' I' X' (l1.trans l') (.bool _)).1 (fun v s' hv => hv.1 ▸ hv.2) fun _ _ e => e

theorem g_dict (okk : Ok B K) (ev : EvS B R n) (hR : Room A n) {ks : List (Option Expr)} {vs : List Expr} {p : Pos} {mv : MV} (h : (if 0 < vs.length && decide (vs.length ≤ 15) then (dictOf? R ks vs me lc st).map fun x => (MV.loc x.2.length, x.2 ++ [.dict x.1]) else Option.none) = some (mv, st')) :
    EvG B A env (.Dict ks vs p) me lc st mv st' := by
  obtain ⟨hz, g⟩ := ifS h
  rw [Bool.and_eq_true, decide_eq_true_eq, decide_eq_true_eq] at hz
  obtain ⟨⟨es, st1⟩, h1, e⟩ := map_some g
  obtain ⟨rfl, rfl⟩ := some2 (congrArg some e)
  clear h g e
  intro s s₀ μ₀ μ I₀ I Q E X k
  refine sim_dictDisplay okk.toTopOk ev hR hz.1 hz.2 h1 X fun d s1 μ1 I1 X1 l1 W n0 O => ?_
  obtain ⟨X2, l2, e2⟩ := X1.adopt (h' := s1.heap) (mo := .dict es) W n0 (fun _ _ _ e => e) O s1.toks
  exact k _ _ _ _ X2 (l1.trans l2) (.loc e2)

theorem g_attr (okk : Ok B K) (ev : EvS B R n) (hR : Room A n) {o : Expr} {a : Str} {p : Pos} {mv : MV} (h : (if !isName o then Option.none else (R.ev o me lc st).bind fun x => (attrM B.P x.1 a x.2).map fun v => (v, x.2)) = some (mv, st')) :
    EvG B A env (.Attribute o a p) me lc st mv st' := by
  obtain ⟨hn, g0⟩ := ifN h
  refine bindE g0 fun o' st1 h1 g => ?_
  obtain ⟨m, h2, e⟩ := map_some g
  obtain ⟨rfl, rfl⟩ := some2 (congrArg some e)
  obtain ⟨x, q, rfl⟩ := name_of (by simpa using hn)
  exact fun _ _ _ _ _ _ _ _ X k => ev_attr okk.toClsOk ev hR h1 h2 X k

theorem g_tup (ev : EvS B R n) (hR : Room A n) {es : List Expr} {c : Nat} {p : Pos} {mv : MV} (h : (if es.any isStarred || decide (1048576 < es.length) then Option.none else (evs R es me lc st).map fun x => (MV.tup x.1, x.2)) = some (mv, st')) :
    EvG B A env (.Tuple es c p) me lc st mv st' := by
  obtain ⟨hs, g⟩ := ifN h
  obtain ⟨h5, h6⟩ := any_decide hs
  obtain ⟨⟨vs, st1⟩, h1, e⟩ := map_some g
  obtain ⟨rfl, rfl⟩ := some2 (congrArg some e)
  exact fun _ _ _ _ _ _ _ _ X k => ev_tuple ev hR h5 h6 h1 X k

theorem g_if (ev : EvS B R n) (tr : TrS B R n) (hR : Room A n) {t b o : Expr} {p : Pos} {mv : MV} (h : ((R.tr t me lc st).bind fun x => if x.1 then R.ev b me lc x.2 else R.ev o me lc x.2) = some (mv, st')) : EvG B A env (.IfExp t b o p) me lc st mv st' := by
  refine bindE h fun c st1 h1 g => ?_
  intro s s₀ μ₀ μ I₀ I Q E X k
  refine IfExp_ (tr h1 hR X fun s1 μ1 I1 X1 l1 => ?_)
  clear h h1 X
  induction c using Bool.casesOn with
  | true => exact ev g hR X1 fun v s' μ' I' X' l' => k v s' μ' I' X' (l1.trans l')
  | false => exact ev g hR X1 fun v s' μ' I' X' l' => k v s' μ' I' X' (l1.trans l')

theorem g_comp (ev : EvS B R n) (cp : CompS B R n) (hR : Room A n) {elt : Expr} {gens : List Comprehension} {scope : Scope} {p : Pos} {mv : MV} (h : compE R elt gens scope me lc st = some (mv, st')) : EvG B A env (.ListComp elt gens scope p) me lc st mv st' := by
  obtain ⟨t, it, ifs, v, st1, i, vs, hs, rfl, h1, h2, h3, rfl⟩ := compE_inv h
  exact fun _ _ _ _ _ _ _ _ X k => ev_comp ev cp hR hs.2 (innerOk_spec hs.1) h1 h2 h3 X k

theorem g_lam (okk : Ok B K) {ps : Arguments} {body : Expr} {scope : Scope} {p : Pos} {mv : MV} (h : (if me.lam && innerOk me scope && scope.names.all (fun p => p.2 != .free || !me.own p.1) && plainParams ps && scope.names.all (fun p => p.2 != .cell) && ps.args.all (fun p => scope.names.lookup p.arg == some .local) then some (MV.lam ps body scope (captured me lc scope), st) else Option.none) = some (mv, st')) :
    EvG B A env (.Lambda ps body scope p) me lc st mv st' := by
  obtain ⟨hs, g⟩ := ifS h
  simp only [Bool.and_eq_true] at hs
  obtain ⟨rfl, rfl⟩ := some2 g
  exact fun _ _ _ _ _ _ _ _ X k => ev_lambda okk hs.1.1.1.1.1 (innerOk_spec hs.1.1.1.1.2) hs.1.1.1.2 hs.1.1.2 X k

theorem g_const {c : Const} {i : Nat} {p : Pos} {mv : MV} (h : ((constM c).map fun v => (v, st)) = some (mv, st')) : EvG B A env (.Constant c i p) me lc st mv st' := by
  obtain ⟨m, h1, e⟩ := map_some h
  obtain ⟨rfl, rfl⟩ := some2 (congrArg some e)
  exact fun s _ _ μ _ I _ _ X k => sim_const h1 fun v t hv => k _ _ μ I (X.tok t) .refl hv

theorem g_name (okk : Ok B K) {x : Str} {p : Pos} {mv : MV} (h : ((getName B.P me lc x).map fun v => (v, st)) = some (mv, st')) : EvG B A env (.Name x p) me lc st mv st' := by
  obtain ⟨m, h1, e⟩ := map_some h
  obtain ⟨rfl, rfl⟩ := some2 (congrArg some e)
  exact fun s _ _ μ _ I _ _ X k => FrOk.name okk.glob okk.ng okk.nb X.fr X.good h1 fun v hv => k v s μ I X .refl hv

theorem g_boolop (ev : EvS B R n) (hR : Room A n) {op : BoolOp} {vs : List Expr} {p : Pos} {mv : MV} (h : ((boolV R op vs me lc st).map fun x => (MV.bool x.1, x.2)) = some (mv, st')) : EvG B A env (.BoolOp op vs p) me lc st mv st' := by
  obtain ⟨⟨b, st1⟩, h1, e⟩ := map_some h
  obtain ⟨rfl, rfl⟩ := some2 (congrArg some e)
  intro s s₀ μ₀ μ I₀ I Q E X k
  rw [arm_eval_BoolOp]
  exact sim_boolV ev hR h1 X fun s' μ' I' X' l' => k _ s' μ' I' X' l' (.bool _)

theorem step_evG (okk : Ok B K) (a : All B R n) (hR : Room A n) {e : Expr} {mv : MV} (h : evF B.P R e me lc st = some (mv, st')) : EvG B A env e me lc st mv st' := by
  induction e using PySem.Expr.casesOn with
  | Constant c _ _ => exact g_const h
  | Name x p => exact g_name okk h
  | BoolOp op vs p => exact g_boolop a.ev hR h
  | BinOp l op r p => exact g_binF a.ev hR h
  | UnaryOp op x p => induction op using PySem.UnaryOp.casesOn with
    | Not => exact g_not a.ev hR h
    | USub => exact g_neg a.ev hR h
    | _ => exact no_some h
  | IfExp t b o p => exact g_if a.ev a.tr hR h
  | Tuple es c p => exact g_tup a.ev hR h
  | List es p => exact g_list a.ev hR h
  | Dict ks vs p => exact g_dict okk a.ev hR h
  | Subscript v i p => exact g_sub okk a.ev hR h
  | Attribute o a' p => exact g_attr okk a.ev hR h
  | Compare l ops cs p => exact g_cmp a.ev hR h
  | Call f args kws ps =>
    obtain ⟨hk, g0⟩ := ifN h
    obtain rfl : kws = [] := List.isEmpty_iff.mp (by simpa using hk)
    exact g_call okk a.ev a.call hR g0
  | ListComp elt gens scope p => exact g_comp a.ev a.comp hR h
  | Lambda ps body scope p => exact g_lam okk h
  | _ => exact no_some h

theorem step_ev (okk : Ok B K) (a : All B R n) : EvS B (stepR B.P R) (n + 1) := fun h _ _ _ _ _ _ _ _ _ _ hR X k => step_evG okk a hR.pred h _ _ _ _ _ _ _ _ X k

theorem step_use (a : All B R n) : UseS B (stepR B.P R) (n + 1) := by
  intro e me lc st mv st1 hc h env A s s₀ μ₀ μ I₀ I u Q E lc' st' hR X hu k
  have hR := hR.pred
  induction e using PySem.Expr.casesOn with
  | ListComp elt gens scope p =>
    have h : compE R elt gens scope me lc st = some (mv, st1) := h
    obtain ⟨t, it, ifs, v, st2, i, vs, hs, rfl, h1, h2, h3, rfl⟩ := compE_inv h
    exact use_comp a.ev a.comp hR hs.2 (innerOk_spec hs.1) h1 h2 h3 X hu k
  | _ => exact no_true hc
end
end Mine
end
section
open PySem PySem.W PySem.Calls PyProof.Rows PySem.Spec
namespace Mine

section
variable {B : Base} {R : Rec} {n : Nat} {K : Frag} {env : Env} {me : ME} {lc lc' : Lc} {st st' : St} {μ μ' μ₀ : List Addr} {I I' I₀ : Led} {s s' s₀ : Shared} {A : Around} {E : Value → Shared → Prop}

theorem VS.reverse {vs : List Value} {ms : List MV} (h : VS I μ vs ms) : VS I μ vs.reverse ms.reverse := by
  induction vs generalizing ms with
  | nil => cases h; exact .nil
  | cons v r ih =>
    cases h with | cons hv hr =>
    rw [List.reverse_cons, List.reverse_cons]
    exact (ih hr).append (.cons hv .nil)

theorem lookup_rev {α : Type} {q : List (Str × α)} (hn : (q.map (·.1)).Nodup) (x : Str) : q.reverse.lookup x = q.lookup x := by
  have hn' : (q.reverse.map (·.1)).Nodup := by rw [List.map_reverse]; exact List.pairwise_reverse.mpr (hn.imp fun h => Ne.symm h)
  cases h : q.lookup x with
  | some k => exact lookup_nodup hn' (List.mem_reverse.mpr (mem_of_lookup h))
  | none =>
    cases h' : q.reverse.lookup x with
    | none => rfl
    | some k =>
      have := lookup_nodup hn (List.mem_reverse.mp (mem_of_lookup h'))
      rw [h] at this; cases this

theorem bind0_rev {q : List (Str × MV)} (hn : (q.map (·.1)).Nodup) (lc : Lc) : bind0 (fun _ => true) q.reverse lc = bind0 (fun _ => true) q lc := by
  funext x
  rw [bind0_eq, bind0_eq, List.reverse_reverse, lookup_rev hn]

theorem zip_rev {α β : Type} : ∀ (xs : List α) (ms : List β), xs.length = ms.length → xs.reverse.zip ms.reverse = (xs.zip ms).reverse
  | [], [], _ => rfl
  | [], _ :: _, h => by simp at h
  | _ :: _, [], h => by simp at h
  | x :: xs, m :: ms, h => by
    have h' : xs.length = ms.length := by simpa using h
    rw [List.reverse_cons, List.reverse_cons, List.zip_append (by simp [h']), zip_rev xs ms h', List.zip_cons_cons, show (x :: xs).zip (m :: ms) = (x, m) :: xs.zip ms from rfl, List.reverse_cons]
    rfl

/-- the names of a tuple of targets, all local -/
theorem names_locals : ∀ {ts : List Expr} {ms : List MV} {lc lc' : Lc} {names : List Str}, assignNames me ts ms lc = some lc' → names = ts.filterMap nameOf → (∀ x ∈ names, me.kind x = some .local) → lc' = bind0 (fun _ => true) (names.zip ms) lc ∧ names.length = ms.length := by
  intro ts
  induction ts with
  | nil =>
    intro ms lc lc' names h e _
    rcases assignNames_inv h with ⟨_, rfl, rfl⟩ | ⟨_, _, _, _, _, _, e', _⟩
    · subst e; exact ⟨rfl, rfl⟩
    · cases e'
  | cons t ts ih =>
    intro ms lc lc' names h e hl
    rcases assignNames_inv h with ⟨e', _⟩ | ⟨x, p, ts', m, ms', lc1, e', rfl, h1, h⟩
    · cases e'
    · cases e'
      have e' : names = x :: ts.filterMap nameOf := e
      subst e'
      have hx : me.kind x = some .local := hl x (.head _)
      have h1 : lc1 = lc.set x m := by
        exact (Option.some.inj ((if_pos (Or.inl hx)).symm.trans h1)).symm
      obtain ⟨a, b⟩ := ih h rfl fun y hy => hl y (.tail _ hy)
      refine ⟨?_, by rw [List.length_cons, List.length_cons, b]⟩
      rw [a, h1, List.zip_cons_cons]
      rfl

theorem sim_binds {Q : Unit → Shared → Prop} : ∀ {xs : List Str} {ms : List MV} {ws : List Value} {lc : Lc} {s : Shared}, xs.length = ms.length → (∀ x ∈ xs, me.kind x = some .local) → VS I μ ws ms → At B env me lc st μ I s₀ μ₀ I₀ s →
    (∀ s', At B env me (bind0 (fun _ => true) (xs.zip ms) lc) st μ I s₀ μ₀ I₀ s' → Q () s') → wpAny B.M A (assignInOrder (xs.map fun x => bindName env x) ws) Q E s
  | [], [], ws, lc, s, _, _, hv, X, k => by
    obtain rfl := hv.inv
    exact wpAny_pure (k s X)
  | x :: xs, m :: ms, ws, lc, s, hl, hk, hv, X, k => by
    obtain ⟨_, _, rfl, hv, hvs⟩ := hv.inv
    show wpAny _ _ (do holding _ (bindName env x _); assignInOrder (xs.map fun x => bindName env x) _) _ _ _
    have hx : setName me lc x m = some (lc.set x m) := by
      exact if_pos (.inl (hk x (.head _)))
    refine wpAny_bind (wpAny_holding (wpAny_bindName (sim_setName hx hv X fun s1 X1 => ?_)))
    exact sim_binds (by simpa using hl) (fun y hy => hk y (.tail _ hy)) hvs X1 k
  | [], _ :: _, _, _, _, hl, _, _, _, _ => by simp at hl
  | _ :: _, [], _, _, _, hl, _, _, _, _ => by simp at hl

theorem swapped_not {t e : Expr} (h : ∀ ts c p vs c' p', t = .Tuple ts c p → e = .Tuple vs c' p' → False) (hl : ∀ ts p, t ≠ .List ts p) : swappedStores [t] e env = pure none := by
  induction t using PySem.Expr.casesOn with
  | List => exact absurd rfl (hl _ _)
  | Tuple => induction e using PySem.Expr.casesOn with
    | Tuple => exact (h _ _ _ _ _ _ rfl rfl).elim
    | _ => rfl
  | _ => rfl

set_option backward.match.sparseCases true in
noncomputable def pickName (env : Env) (g : Nat) : Expr → Option Str
  | .Name id pos => if env.kindOf id == some .local && pos.line == g then some id else none
  | _ => none
theorem pick_name {env : Env} {g : Nat} {t : Expr} {y : Str} (h : pickName env g t = some y) : isName t = true := by
  induction t using PySem.Expr.casesOn with
  | Name x p => rfl
  | _ => exact no_some h
noncomputable def swapNames (env : Env) (ts : List Expr) : List Str := ts.filterMap (pickName env ((ts.head?.map (·.pos.line)).getD 0))

theorem swapped_tuple {ts vs : List Expr} {c c' : Nat} {p p' : Pos} (hb : (vs.all (constantsAlone 8) && !vs.all (foldedForSure 8)) = false) :
    swappedStores [.Tuple ts c p] (.Tuple vs c' p') env = pure none ∨ (swappedStores [.Tuple ts c p] (.Tuple vs c' p') env = pure (some (swapNames env ts)) ∧ (swapNames env ts).length = ts.length) := by
  unfold swappedStores
  dsimp only
  split
  · exact .inl rfl
  · split
    · exact .inl rfl
    · split
      · exact .inl rfl
      · rename_i h3
        split
        · exact .inl rfl
        · split
          · rename_i h4 h5
            rw [h5, Bool.true_and, Bool.not_eq_false'] at hb
            exact absurd hb h4
          · refine .inr ⟨rfl, ?_⟩
            simp only [Bool.or_eq_true, not_or, bne_iff_ne, ne_eq, Decidable.not_not] at h3
            exact h3.1

theorem swapNames_sub {ts : List Expr} (hl : (swapNames env ts).length = ts.length) : swapNames env ts = ts.filterMap nameOf ∧ ∀ x ∈ swapNames env ts, env.kindOf x = some .local := by
  unfold swapNames at hl ⊢
  generalize (ts.head?.map (·.pos.line)).getD 0 = g at hl ⊢
  induction ts with
  | nil => exact ⟨rfl, fun _ h => nomatch h⟩
  | cons t r ih =>
    have le : (r.filterMap (pickName env g)).length ≤ r.length := List.length_filterMap_le _ _
    rw [List.filterMap_cons] at hl ⊢
    rw [List.filterMap_cons]
    cases hp : pickName env g t with
    | none =>
      rw [hp] at hl
      simp only [List.length_cons] at hl
      omega
    | some y =>
      rw [hp] at hl
      dsimp only at hl ⊢
      obtain ⟨a, b⟩ := ih (by simpa using hl)
      have ht : nameOf t = some y ∧ env.kindOf y = some .local := by
        obtain ⟨id, pos, rfl⟩ : ∃ x p, t = .Name x p := name_of (pick_name hp)
        unfold pickName at hp
        dsimp only at hp
        split at hp
        · rename_i hc
          cases hp
          rw [Bool.and_eq_true] at hc
          exact ⟨rfl, by simpa using hc.1⟩
        · cases hp
      rw [ht.1]
      refine ⟨by rw [a], fun x hx => ?_⟩
      rcases List.mem_cons.mp hx with rfl | hx
      · exact ht.2
      · exact b x hx

theorem each_plain {t : Expr} (h : isListT t = false) : ((assignEach [t] env).map (·.2)) = [assign t env] := by
  induction t using PySem.Expr.casesOn with
  | List ts p => exact no_true' h
  | Starred e p => exact no_true' h
  | _ => rfl
theorem tail_assign {P : MP} (hP : P = B.P) (ok : ClsOk B K) (ev : EvS B R n) (hR : Room A n) {t e : Expr} {m : MV} {v : Value} {Q : Flow → Shared → Prop} (hb : swapBad t e = false) (h : assignF P R t m me lc st = some (lc', st')) (hv : V I μ v m) (X : At B env me lc st μ I s₀ μ₀ I₀ s)
    (k : ∀ s' μ' I', At B env me lc' st' μ' I' s₀ μ₀ I₀ s' → Le μ I μ' I' → Q .next s') : wpAny B.M A (do assignStores env v (← swappedStores [t] e env) ((assignEach [t] env).map (·.2))) Q E s := by
  have each : ((assignEach [t] env).map (·.2)) = [assign t env] := by
    exact each_plain (swapBad_parts hb).1
  rw [each]
  have plain : wpAny B.M A (assignStores env v none [assign t env]) Q E s := by
    show wpAny _ _ (do assign t env v; (pure Flow.next : Sem Flow)) _ _ _
    exact wpAny_bind (sim_assign hP ok ev hR h hv X fun s' μ' I' X' l' => wpAny_pure (k s' μ' I' X' l'))
  by_cases hT : ∃ ts c p vs c' p', t = .Tuple ts c p ∧ e = .Tuple vs c' p'
  · obtain ⟨ts, c, p, vs, c', p', rfl, rfl⟩ := hT
    obtain ⟨hb1, hb2⟩ := swapBad_tup hb
    rcases swapped_tuple (env := env) (ts := ts) (c := c) (c' := c') (p := p) (p' := p') hb1 with q | ⟨q, ql⟩
    · rw [q]; exact wpAny_bind (wpAny_pure plain)
    · rw [q]
      refine wpAny_bind (wpAny_pure ?_)
      obtain ⟨n1, n2⟩ := swapNames_sub ql
      have kinds : ∀ x, env.kindOf x = me.kind x := fun x => by unfold Env.kindOf ME.kind; rw [X.fr.sc]
      obtain ⟨ms, hm, g⟩ := bind_some (show (asTupM m).bind _ = _ from h); clear h
      obtain rfl := asTupM_eq hm; clear hm
      · obtain ⟨lc1, h1, e⟩ := map_some g; clear g
        cases e
        obtain ⟨a1, a2⟩ := names_locals h1 n1 fun x hx => by rw [← kinds]; exact n2 x hx
        obtain ⟨_, _, _, _, rfl, ma, ca, da, ra, za⟩ := hv.inv
        show wpAny _ _ (do rule "assign.swapped-stores"; let items ← unpackItems _ (swapNames env ts).length none; assignInOrder ((swapNames env ts).reverse.map fun n => bindName env n) items.reverse; (pure Flow.next : Sem Flow)) _ _ _
        refine wpAny_bind (wpAny_rule (wpAny_bind ?_))
        have hsz : (swapNames env ts).length = (List.toArray ‹List Value›).size := by rw [a2, List.size_toArray, ra.length]
        rw [hsz]
        refine wpAny_unpackItems_tuple hR.hh (isTuple_of (X.good.imm _ ma) ca da) fun h' hs => ?_
        have X1 := X.iterGone hs s.toks
        refine wpAny_bind (sim_binds (xs := (swapNames env ts).reverse) (ms := ms.reverse) (by simp [a2]) (fun x hx => by rw [← kinds]; exact n2 x (List.mem_reverse.mp hx)) ra.reverse X1 fun s' X' => wpAny_pure ?_)
        have hz : (swapNames env ts).reverse.zip ms.reverse = ((swapNames env ts).zip ms).reverse := by
          exact zip_rev _ _ a2
        rw [hz, bind0_rev] at X'
        · exact k s' μ I (by rw [a1]; exact X') .refl
        · rw [List.map_fst_zip (by omega), n1]; exact hb2
  · have : swappedStores [t] e env = pure none := swapped_not (fun ts c p vs c' p' h1 h2 => hT ⟨ts, c, p, vs, c', p', h1, h2⟩) fun ts p e' => by
      subst e'; cases (swapBad_parts hb).1
    rw [this]
    exact wpAny_bind (wpAny_pure plain)

theorem not_any {e : Expr} (h : isAnyComp e = false) (t : Option Expr) (l : Nat) : swapsWith e t l env = pure false := by
  induction e using PySem.Expr.casesOn with
  | ListComp => exact no_true' h
  | SetComp => exact no_true' h
  | DictComp => exact no_true' h
  | _ => rfl

theorem swaps_comp {e : Expr} (h : isComp e = true) (t : Expr) (l : Nat) : ∃ b, swapsWith e (some t) l env = pure b := by
  refine Expr.ListComp.elim (motive_1 := fun e => ∃ b, swapsWith e (some t) l env = pure b) e (eq_of_beq h) fun _ _ _ _ => ?_
  by_cases n : t.ctorIdx = 23
  · exact Expr.Name.elim (motive_1 := fun t => ∃ b, swapsWith _ (some t) l env = pure b) t n fun _ _ => ⟨_, rfl⟩
  · refine ⟨false, ?_⟩
    induction t using PySem.Expr.casesOn with
    | Name => exact absurd rfl n
    | _ => rfl

theorem no_comp {e : Expr} (h : ¬ isComp e = true) (h' : isBadE e = false) : isAnyComp e = false := by
  unfold isAnyComp
  rw [Bool.eq_false_iff.mpr h, h']; rfl
theorem for_loop (lp : LoopS B R n) (hR : Room A n) {t : Expr} {b : List Stmt} {it : It} {f : MF} {ia : Addr} {Q : Flow → Shared → Prop} (h : R.loop t it b me lc st = some (f, lc', st')) (X : At B env me lc st μ I s₀ μ₀ I₀ s) (hx : ItX B env me μ I s.heap ia it) (hn : ItNew s₀.heap s.heap ia it)
    (k : ∀ v s' μ' I', At B env me lc' st' μ' I' s₀ μ₀ I₀ s' → Le μ I μ' I' → VFl I' μ' v f → Q v s') {X' : Value → Shared → Prop} :
    codeAny B.M A (.forLoop t (.ref ia) b [] env) (fun r s' => match r with | .ok f => Q f s' | .error e => X' e s') s :=
  lp h hR X hx hn fun v s' μ' I' X' l' hv => k v s' μ' I' X' l' hv

theorem for_plain (ev : EvS B R n) (lp : LoopS B R n) (hR : Room A n) {t e : Expr} {b : List Stmt} {pos : Pos} {v : MV} {it : It} {f : MF} {st1 : St} {Q : Flow → Shared → Prop} (hs : isSet e = false) (h1 : R.ev e me lc st = some (v, st1)) (h2 : itOf v st1 = some it) (h3 : R.loop t it b me lc st1 = some (f, lc', st'))
    (X : At B env me lc st μ I s₀ μ₀ I₀ s) (k : ∀ v s' μ' I', At B env me lc' st' μ' I' s₀ μ₀ I₀ s' → Le μ I μ' I' → VFl I' μ' v f → Q v s') : wpAny B.M A (exec (.For t e b [] pos) env) Q E s := by
  have hset := iter_plain (env := env) hs
  refine wpAny_For (ev h1 hR X fun vv s1 μ1 I1 X1 l1 hv => ?_) hset
  refine sim_iter h2 hv X1 fun ia s2 X2 w hi n0 hb _ => ?_
  exact for_loop lp hR h3 X2 (ItX.ofBase hb w hi) (ItNew.base hb n0) fun v s' μ' I' X' l' => k v s' μ' I' X' (l1.trans l')

theorem for_enum (okk : Ok B K) (ev : EvS B R n) (lp : LoopS B R n) (hR : Room A n) {t a : Expr} {b : List Stmt} {x : Str} {p cp pos : Pos} {v : MV} {it : It} {f : MF} {st1 : St} {Q : Flow → Shared → Prop} (ha : isStarred a = false) (h0 : getName B.P me lc x = some (.bi .enumerate))
    (h1 : R.ev a me lc st = some (v, st1)) (h2 : itOf v st1 = some it) (hr : isRng it = false) (h3 : R.loop t (.enm 0 it) b me lc st1 = some (f, lc', st')) (X : At B env me lc st μ I s₀ μ₀ I₀ s)
    (k : ∀ v s' μ' I', At B env me lc' st' μ' I' s₀ μ₀ I₀ s' → Le μ I μ' I' → VFl I' μ' v f → Q v s') : wpAny B.M A (exec (.For t (.Call (.Name x p) [a] [] cp) b [] pos) env) Q E s := by
  refine wpAny_For ?_
  rw [arm_eval_Call_Name']
  refine wpAny_bind (FrOk.name okk.glob okk.ng okk.nb X.fr X.good h0 fun fv hfv => ?_)
  obtain rfl := hfv.inv
  have hs : [a].any isStarred = false := by simp [ha]
  have hev : evs R [a] me lc st = some ([v], st1) := by rw [evs_step, h1]; rfl
  refine callWith_of (P := fun _ => True) (by rw [args_any hs]; rfl) (fun h _ => ⟨.machine, .inr (.inl rfl), .now⟩) ?_
  refine eval_args hs (sim_evs ev hR hs hev X fun ws s1 μ1 I1 X1 l1 hw => ⟨trivial, ?_⟩)
  obtain ⟨_, _, rfl, gw, hn⟩ := hw.inv
  obtain rfl := hn.inv
  refine sim_enum h2 hr gw X1 fun ia s2 X2 hx hn => ?_
  obtain ⟨ja, old, hE, _⟩ := id hx
  refine wpAny_pyIter_enum hE ?_
  exact for_loop lp hR h3 X2 hx hn fun v s' μ' I' X' l' => k v s' μ' I' X' (l1.trans l')

set_option maxHeartbeats 1000000 in
theorem step_ex (okk : Ok B K) (a : All B R n) : ExS B (stepR B.P R) (n + 1) := by
  intro c me lc lc' st f st' h env A s s₀ μ₀ μ I₀ I Q E hR X k
  have hR := hR.pred
  have ev : EvS B R n := a.ev
  change exF B.P R c me lc st = some (f, lc', st') at h
  have kf : env.scope.kind = .function := by rw [X.fr.sc]; exact X.fr.kf
  induction c using PySem.Stmt.casesOn with
  | Return e p =>
    obtain ⟨e, rfl, g⟩ := bind_some (show e.bind _ = _ from h); clear h
    obtain ⟨⟨v, st1⟩, h1, e⟩ := map_some g; clear g
    cases e
    exact wpAny_Return_some (ev h1 hR X fun v s1 μ1 I1 X1 l1 hv => k _ s1 μ1 I1 X1 l1 (.ret hv))
  | Expr e p =>
    · obtain ⟨hc, g⟩ := ifN (show (if isAnyComp e then Option.none else (R.ev e me lc st).map fun x => (MF.next, lc, x.2)) = some (f, lc', st') from h)
      obtain ⟨⟨v, st1⟩, h1, e⟩ := map_some g; clear h g
      cases e
      exact wpAny_Expr_any (ev h1 hR X fun v s1 μ1 I1 X1 l1 hv => k _ s1 μ1 I1 X1 l1 .next) (by unfold interactive; rw [kf]; rfl) (not_any (by simpa using hc) _ _)
  | Assign ts e pos =>
    obtain ⟨t, ht, g⟩ := bind_some (show (oneE ts).bind _ = _ from h); clear h
    obtain rfl := oneE_eq ht; clear ht
    · obtain ⟨hb, g0⟩ := ifN (show (if swapBad t e then Option.none else (R.ev e me lc st).bind fun x => (assignF B.P R t x.1 me lc x.2).map fun y => (MF.next, y.1, y.2)) = some (f, lc', st') from g)
      clear g
      have hb : swapBad t e = false := by simpa using hb
      refine bindE g0 fun v st1 h1 h => ?_
      obtain ⟨⟨lc1, st2⟩, h2, e'⟩ := map_some h; clear h
      cases e'
      rw [arm_exec_Assign]
      refine wpAny_bind (wpAny_standAt ?_)
      have rest : ∀ {Q' : Flow → Shared → Prop}, (∀ s' μ' I', At B env me lc1 st2 μ' I' s₀ μ₀ I₀ s' → Le μ I μ' I' → Q' .next s') → wpAny B.M A (do let v ← eval e env; assignStores env v (← swappedStores [t] e env) ((assignEach [t] env).map (·.2))) Q' E s := fun kk =>
        wpAny_bind (ev h1 hR X fun v s1 μ1 I1 X1 l1 hv => tail_assign rfl okk.toClsOk ev hR hb h2 hv X1 fun s' μ' I' X' l' => kk s' μ' I' X' (l1.trans l'))
      have k' : ∀ s' μ' I', At B env me lc1 st2 μ' I' s₀ μ₀ I₀ s' → Le μ I μ' I' → Q .next s' := fun s' μ' I' X' l' => k _ s' μ' I' X' l' .next
      by_cases hc : isComp e = true
      · obtain ⟨bb, hsw⟩ := swaps_comp (env := env) hc t pos.line
        show wpAny _ _ (do if ← swapsWith e (some t) pos.line env then _ else _) _ _ _
        rw [hsw]
        refine wpAny_bind (wpAny_pure ?_)
        induction bb using Bool.casesOn with
        | false => exact rest k'
        | true =>
          have each : ((assignEach [t] env).map (·.2)) = [assign t env] := by
            exact each_plain (swapBad_parts hb).1
          rw [each]
          refine wpAny_bind (a.use hc h1 hR X (fun v s1 μ1 I1 X1 l1 hv => ?_) fun s' μ' I' X' l' => wpAny_pure (k' s' μ' I' X' l'))
          exact sim_assign rfl okk.toClsOk ev hR h2 hv X1 fun s2 μ2 I2 X2 l2 => ⟨μ2, I2, X2, l2⟩
      · have hn : isAnyComp e = false := no_comp hc (swapBad_parts hb).2
        show wpAny _ _ (do if ← swapsWith e (some t) pos.line env then _ else _) _ _ _
        rw [not_any hn]
        exact wpAny_bind (wpAny_pure (rest k'))
  | If t b o p =>
    refine bindE ((show (R.tr t me lc st).bind _ = _ from h)) fun c st1 h1 h => ?_
    refine wpAny_If (a.tr h1 hR X fun s1 μ1 I1 X1 l1 => ?_)
    induction c using Bool.casesOn with
    | true => exact sim_exs a.ex hR h X1 fun v s' μ' I' X' l' => k v s' μ' I' X' (l1.trans l')
    | false => exact sim_exs a.ex hR h X1 fun v s' μ' I' X' l' => k v s' μ' I' X' (l1.trans l')
  | For t e b o p =>
    have g0 : (if !o.isEmpty || isSet e then Option.none else (iterOf B.P R e me lc st).bind fun x => R.loop t x.1 b me lc x.2) = some (f, lc', st') := h
    clear h
    · obtain ⟨hs, g1⟩ := ifN g0
      clear g0
      rw [Bool.or_eq_true, not_or] at hs
      obtain rfl : o = [] := List.isEmpty_iff.mp (by simpa using hs.1)
      have hs : isSet e = false := by simpa using hs.2
      refine bindE g1 fun it st1 h1 h2 => ?_
      have plain : iterV R e me lc st = some (it, st1) → wpAny B.M A (exec (.For t e b [] p) env) Q E s := fun h1 => by
        refine bindE ((show (R.ev e me lc st).bind _ = _ from h1)) fun v st2 h3 g => ?_
        obtain ⟨i, h4, e⟩ := map_some g; clear g
        cases e
        exact for_plain ev a.loop hR hs h3 h4 h2 X k
      unfold iterOf at h1
      cases hc : call1E e with
      | none =>
        rw [hc] at h1
        exact plain h1
      | some q =>
        rw [hc] at h1
        obtain ⟨x, p1, a1, p2⟩ := q
        obtain rfl := call1E_eq hc; clear hc
        obtain ⟨g, hg, h0⟩ := bind_some h1; clear h1
        by_cases hen : isEnumB g = true
        · have h5 := (if_pos hen).symm.trans h0
          obtain rfl := isEnumB_eq hen; clear hen h0
          · obtain ⟨ha, h6⟩ := ifN h5
            refine bindE h6 fun v st2 h3 g1 => ?_
            obtain ⟨i, h4, g2⟩ := bind_some g1; clear g1
            · obtain ⟨hr, g3⟩ := ifN g2
              cases g3
              exact for_enum okk ev a.loop hR (by simpa using ha) hg h3 h4 (by simpa using hr) h2 X k
        · exact plain ((if_neg hen).symm.trans h0)
  | While t b o p =>
    have g0 : (if !o.isEmpty then Option.none else R.whil t b me lc st) = some (f, lc', st') := h
    clear h
    · obtain ⟨ho, g1⟩ := ifN g0
      clear g0
      obtain rfl : o = [] := List.isEmpty_iff.mp (by simpa using ho)
      exact wpAny_While (a.whil g1 hR X fun v s' μ' I' X' l' hv => k v s' μ' I' X' l' hv)
  | _ => exact no_some h

theorem stuck (B : Base) : All B Rec.stuck 0 where
  ev := by intro e me lc st mv st' h; cases h
  tr := by intro e me lc st mv st' h; cases h
  ex := by intro e me lc lc' st mv st' h; cases h
  call := by intro e me lc st mv h; cases h
  code := by intro e me lc st mv h; cases h
  loop := by intro t it b me lc lc' st f st' h; cases h
  whil := by intro t b me lc lc' st f st' h; cases h
  comp := by intro elt t ifs it acc me lc st vs st' h; cases h
  use := by intro e me lc st mv st1 _ h; cases h

theorem step_all (okk : Ok B K) (a : All B R n) : All B (stepR B.P R) (n + 1) where
  ev := step_ev okk a
  tr := step_tr a.ev a.tr
  ex := step_ex okk a
  call := step_call okk a.ev a.ex a.code
  code := step_code okk a.ex
  loop := step_loop okk.toClsOk a.ev a.ex a.loop
  whil := step_whil a.tr a.ex a.whil
  comp := step_comp okk.toClsOk a.ev a.tr a.comp
  use := step_use a

/-- the simulation -/
theorem sim (okk : Ok B K) : ∀ n, All B (run B.P n) n
  | 0 => stuck B
  | n + 1 => step_all okk (sim okk n)
end
end Mine
end
section
open PySem
namespace Mine
/-- the defs of a body, in their order -/
noncomputable def fdefs (body : List Stmt) : List (Str × MDef) := body.filterMap fun s => match s with
  | .FunctionDef n a b _ _ _ sc _ _ _ => some (n, ⟨a, b, sc, n == ("_law_hands" : Str)⟩)
  | _ => none
noncomputable def topDefs : List (Str × MDef) := fdefs PySem.Challenge.pw_og0084_01.main.body
noncomputable def clsDefs : List (Str × List (Str × MDef)) := PySem.Challenge.pw_og0084_01.main.body.filterMap fun s => match s with
  | .ClassDef n _ _ b .. => some (n, fdefs b)
  | _ => none
noncomputable def topAt : List Nat := [62, 69, 97, 104, 111, 167, 174, 179, 184, 191, 198, 205, 212, 219, 226, 231, 238, 245, 252, 259, 266, 273, 278, 283, 290, 295, 302, 309, 316, 323, 328]
noncomputable def defsL : List (Nat × MDef) := topAt.zip (topDefs.map (·.2)) ++
  [83].zip ((clsDefs[2]?.map fun c => c.2.map (·.2)).getD []) ++ [125, 132, 139, 146, 153].zip ((clsDefs[3]?.map fun c => c.2.map (·.2)).getD [])
noncomputable def globL : List (Str × MV) := (topDefs.map (·.1)).zip (topAt.map MV.fn) ++ ([
  ("Hands", .cls 86), ("Seeker", .cls 156), ("len", .bi .len), ("range", .bi .range), ("int", .bi .int), ("bytes", .bi .bytes), ("list", .bi .list), ("dict", .bi .dict),
   ("tuple", .bi .tuple), ("abs", .bi .abs), ("sum", .bi .sum), ("enumerate", .bi .enumerate), ("SEEKER_KINDS", .str "ALL LEADING FIRST CHARACTERS")] : List (Str × MV))
noncomputable def initL : List (Nat × Nat) := [(86, 83), (156, 125)]
noncomputable def methL : List ((Nat × Str) × Option Nat) :=
  ([((156, "width"), some 132), ((156, "reach"), some 139), ((156, "is_fit"), some 146), ((156, "took"), some 153)] : List ((Nat × Str) × Option Nat)) ++ (["kind", "wanted", "begin", "end", "lead", "is_done"] : List Str).map (fun x => ((156, x), none)) ++
  (["fetch", "plant", "amount", "keep", "spot", "bring", "room"] : List Str).map fun x => ((86, x), none)
noncomputable def lawP : MP where
  glob x := globL.lookup x
  defs a := defsL.lookup a
  init c := initL.lookup c
  meth c m := methL.lookup (c, m)
end Mine
end
section
open PySem PySem.W PyProof.Rows
namespace Mine
noncomputable def noDef : MDef := ⟨{ posonlyargs := [], args := [], vararg := none, kwonlyargs := [], kw_defaults := [], kwarg := none, defaults := [] }, [], { kind := .function, names := [], isGenerator := false, isCoroutine := false }, false⟩
/-- the def at an address -/
noncomputable def bd (a : Nat) : MDef := (([(30, 0), (37, 1)] : List (Nat × Nat)).lookup a).elim ((defsL.lookup a).getD noDef) fun i => ((clsDefs[0]?.map fun c => c.2.map (·.2)).getD []).getD i noDef
noncomputable def en (P : Params) (k : Str) (t : Tok) (v : Value) : DictEntry := { hash := PyData.keyHash P k, key := .str k t, val := v }
noncomputable def tu (xs : Array Value) : Obj := { cls := .type "tuple", data := .seq xs }
noncomputable def co (xs : Array Value) : Obj := { cls := .type "code", data := .fields xs }
noncomputable def fo (nm q : Str) (a : Nat) (dfl : Value) (m : Str) (t : Tok) (c : Addr) : Obj :=
  { cls := .type "function", data := .func { name := nm, qualname := q, params := (bd a).params, body := .stmts (bd a).body, scope := (bd a).scope, globals := 3, closure := [], defaults := dfl, kwdefaults := .none, pyModule := .str m t, code := .ref c } }
/-- what stands after the top -/
noncomputable def K0 (P : Params) : Frag :=
  (nat_lit 2, { cls := .none, data := .dict #[en P "type.__subclasses__.Exception.0" 225 (.int 40 0), en P "type.__subclasses__.Exception.n" 226 (.int 1 0)] 2 }) ::
  (nat_lit 3, { cls := .type "dict", data := .dict #[en P "__name__" 165 (.str "law_og0084_01" 519), en P "__doc__" 166 (.none), en P "__package__" 167 (.none), en P "__loader__" 168 (.builtin "__main__.__loader__#opaque"), en P "__spec__" 169 (.none), en P "__annotations__" 170 (.ref 6), en P "__builtins__" 171 (.ref 4), en P "__file__" 173 (.str "/claim/cut.py" 172), en P "__cached__" 174 (.none), en P "LedgerError" 228 (.ref 40), en P "RunFault" 244 (.ref 53), en P "lies_at" 255 (.ref 62), en P "first_at" 265 (.ref 69), en P "Hands" 306 (.ref 86), en P "lone_octets" 314 (.ref 97), en P "SEEKER_KINDS" 318 (.str "ALL LEADING FIRST CHARACTERS" 317), en P "stretch_begin" 327 (.ref 104), en P "stretch_end" 336 (.ref 111), en P "Seeker" 405 (.ref 156), en P "seeker_of" 416 (.ref 167), en P "fits_in" 429 (.ref 174), en P "tallied" 435 (.ref 179), en P "replaced_in" 441 (.ref 184), en P "converted" 457 (.ref 191), en P "sought" 465 (.ref 198), en P "put_in" 474 (.ref 205), en P "tally_with" 491 (.ref 212), en P "replace_with" 506 (.ref 219), en P "convert_with" 518 (.ref 226), en P "_law_pen" 526 (.ref 231), en P "_law_draw" 539 (.ref 238), en P "_law_pick" 547 (.ref 245), en P "_law_ref" 554 (.ref 252), en P "_law_fetch" 563 (.ref 259), en P "_law_put" 572 (.ref 266), en P "_law_hands" 582 (.ref 273), en P "_law_span" 588 (.ref 278), en P "_law_taken" 594 (.ref 283), en P "_law_edge" 601 (.ref 290), en P "_law_rows" 607 (.ref 295), en P "_law_tally_done" 626 (.ref 302), en P "_law_replace_done" 647 (.ref 309), en P "_law_convert_done" 669 (.ref 316), en P "_law_written" 679 (.ref 323), en P "law" 685 (.ref 328)] 45 }) ::
  (nat_lit 15, tu #[.type "Exception"]) ::
  (nat_lit 22, tu #[.int 0 201, .int 0 202]) ::
  (nat_lit 23, tu #[.ref 22]) ::
  (nat_lit 24, tu #[]) ::
  (nat_lit 26, tu #[.str "self" 206, .str "what" 207, .str "at" 208]) ::
  (nat_lit 27, tu #[]) ::
  (nat_lit 29, co #[.str "__init__" 203, .str "LedgerError.__init__" 204, .str "/claim/cut.py" 205, .int 4 0, .int 3 0, .int 0 0, .int 0 0, .int 3 0, .ref 24, .bool true, .int 181 0, .ref 25, .none, .ref 26, .ref 27, .ref 28, .int 209 0, .int 4 0, .str "/claim/cut.py" 210]) ::
  (nat_lit 30, fo "__init__" "LedgerError.__init__" 30 (.ref 23) "ledgerspeak.errors" 187 29) ::
  (nat_lit 31, tu #[]) ::
  (nat_lit 33, tu #[.str "self" 215]) ::
  (nat_lit 34, tu #[]) ::
  (nat_lit 36, co #[.str "told" 212, .str "LedgerError.told" 213, .str "/claim/cut.py" 214, .int 9 0, .int 1 0, .int 0 0, .int 0 0, .int 3 0, .ref 31, .bool true, .int 181 0, .ref 32, .none, .ref 33, .ref 34, .ref 35, .int 216 0, .int 9 0, .str "/claim/cut.py" 217]) ::
  (nat_lit 37, fo "told" "LedgerError.told" 37 (.none) "ledgerspeak.errors" 187 36) ::
  (nat_lit 38, tu #[.str "at" 219, .str "what" 220]) ::
  (nat_lit 39, { cls := .type "dict", data := .dict #[en P "__module__" 196 (.str "ledgerspeak.errors" 187), en P "__firstlineno__" 200 (.int 2 199), en P "__init__" 211 (.ref 30), en P "told" 218 (.ref 37), en P "__static_attributes__" 221 (.ref 38), en P "__weakref__" 223 (.ref 41), en P "__doc__" 224 (.none)] 3 }) ::
  (nat_lit 40, { cls := .type "type", data := Data.cls { name := Str.ofString "LedgerError", bases := [Value.type "Exception"], mro := [Value.ref 40, Value.type "Exception", Value.type "BaseException", Value.type "object"], ns := 39, qualname := Str.ofString "LedgerError", subclasses := [Value.ref 53] }, slots := #[some (Value.ref 15), none, some (.str "LedgerError" 189), some (.str "LedgerError" 197), some (Value.builtin "Exception.__new__"), some (Value.bool true)] }) ::
  (nat_lit 41, { cls := .type "getset_descriptor", data := Data.fields #[.str "__weakref__" 222, Value.ref 40, Value.builtin "ExceptionGroup.__weakref__", Value.none] }) ::
  (nat_lit 44, tu #[.ref 40]) ::
  (nat_lit 51, tu #[]) ::
  (nat_lit 52, { cls := .type "dict", data := .dict #[en P "__module__" 236 (.str "ledgerspeak.errors" 187), en P "__firstlineno__" 240 (.int 11 239), en P "__static_attributes__" 241 (.ref 51), en P "__doc__" 242 (.none)] 2 }) ::
  (nat_lit 53, { cls := .type "type", data := Data.cls { name := Str.ofString "RunFault", bases := [Value.ref 40], mro := [Value.ref 53, Value.ref 40, Value.type "Exception", Value.type "BaseException", Value.type "object"], ns := 52, qualname := Str.ofString "RunFault" }, slots := #[some (Value.ref 44), none, some (.str "RunFault" 229), some (.str "RunFault" 237), some (Value.builtin "Exception.__new__"), some (Value.bool true)] }) ::
  (nat_lit 56, tu #[]) ::
  (nat_lit 58, tu #[.str "octets" 250, .str "wanted" 251, .str "at" 252]) ::
  (nat_lit 59, tu #[]) ::
  (nat_lit 61, co #[.str "lies_at" 247, .str "lies_at" 248, .str "/claim/cut.py" 249, .int 14 0, .int 3 0, .int 0 0, .int 0 0, .int 3 0, .ref 56, .bool true, .int 181 0, .ref 57, .none, .ref 58, .ref 59, .ref 60, .int 253 0, .int 14 0, .str "/claim/cut.py" 254]) ::
  (nat_lit 62, fo "lies_at" "lies_at" 62 (.none) "ledgerspeak.stringing" 245 61) ::
  (nat_lit 63, tu #[]) ::
  (nat_lit 65, tu #[.str "octets" 259, .str "wanted" 260, .str "begin" 261, .str "at" 262]) ::
  (nat_lit 66, tu #[]) ::
  (nat_lit 68, co #[.str "first_at" 256, .str "first_at" 257, .str "/claim/cut.py" 258, .int 16 0, .int 3 0, .int 0 0, .int 0 0, .int 3 0, .ref 63, .bool true, .int 181 0, .ref 64, .none, .ref 65, .ref 66, .ref 67, .int 263 0, .int 16 0, .str "/claim/cut.py" 264]) ::
  (nat_lit 69, fo "first_at" "first_at" 69 (.none) "ledgerspeak.stringing" 245 68) ::
  (nat_lit 77, tu #[]) ::
  (nat_lit 79, tu #[.str "self" 281, .str "fetch" 282, .str "plant" 283, .str "amount" 284, .str "keep" 285, .str "spot" 286, .str "bring" 287, .str "room" 288]) ::
  (nat_lit 80, tu #[]) ::
  (nat_lit 82, co #[.str "__init__" 278, .str "Hands.__init__" 279, .str "/claim/cut.py" 280, .int 25 0, .int 8 0, .int 0 0, .int 0 0, .int 3 0, .ref 77, .bool true, .int 181 0, .ref 78, .none, .ref 79, .ref 80, .ref 81, .int 289 0, .int 25 0, .str "/claim/cut.py" 290]) ::
  (nat_lit 83, fo "__init__" "Hands.__init__" 83 (.none) "ledgerspeak.stringing" 245 82) ::
  (nat_lit 84, tu #[.str "amount" 292, .str "bring" 293, .str "fetch" 294, .str "keep" 295, .str "plant" 296, .str "room" 297, .str "spot" 298]) ::
  (nat_lit 85, { cls := .type "dict", data := .dict #[en P "__module__" 273 (.str "ledgerspeak.stringing" 245), en P "__firstlineno__" 277 (.int 23 276), en P "__init__" 291 (.ref 83), en P "__static_attributes__" 299 (.ref 84), en P "__dict__" 301 (.ref 87), en P "__weakref__" 303 (.ref 88), en P "__doc__" 304 (.none)] 4 }) ::
  (nat_lit 86, { cls := .type "type", data := Data.cls { name := Str.ofString "Hands", bases := [Value.type "object"], mro := [Value.ref 86, Value.type "object"], ns := 85, qualname := Str.ofString "Hands" }, slots := #[none, none, some (.str "Hands" 266), some (.str "Hands" 274), some (Value.builtin "object.__new__"), some (Value.bool true)] }) ::
  (nat_lit 87, { cls := .type "getset_descriptor", data := Data.fields #[.str "__dict__" 300, Value.ref 86, Value.builtin "function.__dict__", Value.builtin "function.__dict__#set"] }) ::
  (nat_lit 88, { cls := .type "getset_descriptor", data := Data.fields #[.str "__weakref__" 302, Value.ref 86, Value.builtin "ExceptionGroup.__weakref__", Value.none] }) ::
  (nat_lit 91, tu #[]) ::
  (nat_lit 93, tu #[.str "operand" 310, .str "hands" 311]) ::
  (nat_lit 94, tu #[]) ::
  (nat_lit 96, co #[.str "lone_octets" 307, .str "lone_octets" 308, .str "/claim/cut.py" 309, .int 33 0, .int 2 0, .int 0 0, .int 0 0, .int 3 0, .ref 91, .bool true, .int 181 0, .ref 92, .none, .ref 93, .ref 94, .ref 95, .int 312 0, .int 33 0, .str "/claim/cut.py" 313]) ::
  (nat_lit 97, fo "lone_octets" "lone_octets" 97 (.none) "ledgerspeak.stringing" 245 96) ::
  (nat_lit 98, tu #[]) ::
  (nat_lit 100, tu #[.str "octets" 322, .str "after" 323, .str "at" 324]) ::
  (nat_lit 101, tu #[]) ::
  (nat_lit 103, co #[.str "stretch_begin" 319, .str "stretch_begin" 320, .str "/claim/cut.py" 321, .int 37 0, .int 2 0, .int 0 0, .int 0 0, .int 3 0, .ref 98, .bool true, .int 181 0, .ref 99, .none, .ref 100, .ref 101, .ref 102, .int 325 0, .int 37 0, .str "/claim/cut.py" 326]) ::
  (nat_lit 104, fo "stretch_begin" "stretch_begin" 104 (.none) "ledgerspeak.inspecting" 315 103) ::
  (nat_lit 105, tu #[]) ::
  (nat_lit 107, tu #[.str "octets" 331, .str "before" 332, .str "at" 333]) ::
  (nat_lit 108, tu #[]) ::
  (nat_lit 110, co #[.str "stretch_end" 328, .str "stretch_end" 329, .str "/claim/cut.py" 330, .int 42 0, .int 2 0, .int 0 0, .int 0 0, .int 3 0, .ref 105, .bool true, .int 181 0, .ref 106, .none, .ref 107, .ref 108, .ref 109, .int 334 0, .int 42 0, .str "/claim/cut.py" 335]) ::
  (nat_lit 111, fo "stretch_end" "stretch_end" 111 (.none) "ledgerspeak.inspecting" 315 110) ::
  (nat_lit 119, tu #[]) ::
  (nat_lit 121, tu #[.str "self" 352, .str "kind" 353, .str "wanted" 354, .str "begin" 355, .str "end" 356]) ::
  (nat_lit 122, tu #[]) ::
  (nat_lit 124, co #[.str "__init__" 349, .str "Seeker.__init__" 350, .str "/claim/cut.py" 351, .int 49 0, .int 5 0, .int 0 0, .int 0 0, .int 3 0, .ref 119, .bool true, .int 181 0, .ref 120, .none, .ref 121, .ref 122, .ref 123, .int 357 0, .int 49 0, .str "/claim/cut.py" 358]) ::
  (nat_lit 125, fo "__init__" "Seeker.__init__" 125 (.none) "ledgerspeak.inspecting" 315 124) ::
  (nat_lit 126, tu #[]) ::
  (nat_lit 128, tu #[.str "self" 363]) ::
  (nat_lit 129, tu #[]) ::
  (nat_lit 131, co #[.str "width" 360, .str "Seeker.width" 361, .str "/claim/cut.py" 362, .int 57 0, .int 1 0, .int 0 0, .int 0 0, .int 3 0, .ref 126, .bool true, .int 181 0, .ref 127, .none, .ref 128, .ref 129, .ref 130, .int 364 0, .int 57 0, .str "/claim/cut.py" 365]) ::
  (nat_lit 132, fo "width" "Seeker.width" 132 (.none) "ledgerspeak.inspecting" 315 131) ::
  (nat_lit 133, tu #[]) ::
  (nat_lit 135, tu #[.str "self" 370, .str "at" 371]) ::
  (nat_lit 136, tu #[]) ::
  (nat_lit 138, co #[.str "reach" 367, .str "Seeker.reach" 368, .str "/claim/cut.py" 369, .int 60 0, .int 2 0, .int 0 0, .int 0 0, .int 3 0, .ref 133, .bool true, .int 181 0, .ref 134, .none, .ref 135, .ref 136, .ref 137, .int 372 0, .int 60 0, .str "/claim/cut.py" 373]) ::
  (nat_lit 139, fo "reach" "Seeker.reach" 139 (.none) "ledgerspeak.inspecting" 315 138) ::
  (nat_lit 140, tu #[]) ::
  (nat_lit 142, tu #[.str "self" 378, .str "octets" 379, .str "at" 380]) ::
  (nat_lit 143, tu #[]) ::
  (nat_lit 145, co #[.str "is_fit" 375, .str "Seeker.is_fit" 376, .str "/claim/cut.py" 377, .int 64 0, .int 3 0, .int 0 0, .int 0 0, .int 3 0, .ref 140, .bool true, .int 181 0, .ref 141, .none, .ref 142, .ref 143, .ref 144, .int 381 0, .int 64 0, .str "/claim/cut.py" 382]) ::
  (nat_lit 146, fo "is_fit" "Seeker.is_fit" 146 (.none) "ledgerspeak.inspecting" 315 145) ::
  (nat_lit 147, tu #[]) ::
  (nat_lit 149, tu #[.str "self" 387, .str "at" 388]) ::
  (nat_lit 150, tu #[]) ::
  (nat_lit 152, co #[.str "took" 384, .str "Seeker.took" 385, .str "/claim/cut.py" 386, .int 73 0, .int 2 0, .int 0 0, .int 0 0, .int 3 0, .ref 147, .bool true, .int 181 0, .ref 148, .none, .ref 149, .ref 150, .ref 151, .int 389 0, .int 73 0, .str "/claim/cut.py" 390]) ::
  (nat_lit 153, fo "took" "Seeker.took" 153 (.none) "ledgerspeak.inspecting" 315 152) ::
  (nat_lit 154, tu #[.str "begin" 392, .str "end" 393, .str "is_done" 394, .str "kind" 395, .str "lead" 396, .str "wanted" 397]) ::
  (nat_lit 155, { cls := .type "dict", data := .dict #[en P "__module__" 344 (.str "ledgerspeak.inspecting" 315), en P "__firstlineno__" 348 (.int 47 347), en P "__init__" 359 (.ref 125), en P "width" 366 (.ref 132), en P "reach" 374 (.ref 139), en P "is_fit" 383 (.ref 146), en P "took" 391 (.ref 153), en P "__static_attributes__" 398 (.ref 154), en P "__dict__" 400 (.ref 157), en P "__weakref__" 402 (.ref 158), en P "__doc__" 403 (.none)] 4 }) ::
  (nat_lit 156, { cls := .type "type", data := Data.cls { name := Str.ofString "Seeker", bases := [Value.type "object"], mro := [Value.ref 156, Value.type "object"], ns := 155, qualname := Str.ofString "Seeker" }, slots := #[none, none, some (.str "Seeker" 337), some (.str "Seeker" 345), some (Value.builtin "object.__new__"), some (Value.bool true)] }) ::
  (nat_lit 157, { cls := .type "getset_descriptor", data := Data.fields #[.str "__dict__" 399, Value.ref 156, Value.builtin "function.__dict__", Value.builtin "function.__dict__#set"] }) ::
  (nat_lit 158, { cls := .type "getset_descriptor", data := Data.fields #[.str "__weakref__" 401, Value.ref 156, Value.builtin "ExceptionGroup.__weakref__", Value.none] }) ::
  (nat_lit 161, tu #[]) ::
  (nat_lit 163, tu #[.str "octets" 409, .str "kind" 410, .str "wanted" 411, .str "before" 412, .str "after" 413]) ::
  (nat_lit 164, tu #[]) ::
  (nat_lit 166, co #[.str "seeker_of" 406, .str "seeker_of" 407, .str "/claim/cut.py" 408, .int 76 0, .int 5 0, .int 0 0, .int 0 0, .int 3 0, .ref 161, .bool true, .int 181 0, .ref 162, .none, .ref 163, .ref 164, .ref 165, .int 414 0, .int 76 0, .str "/claim/cut.py" 415]) ::
  (nat_lit 167, fo "seeker_of" "seeker_of" 167 (.none) "ledgerspeak.inspecting" 315 166) ::
  (nat_lit 168, tu #[]) ::
  (nat_lit 170, tu #[.str "octets" 420, .str "seekers" 421, .str "found" 422, .str "at" 423, .str "taker" 424, .str "number" 425, .str "seeker" 426]) ::
  (nat_lit 171, tu #[]) ::
  (nat_lit 173, co #[.str "fits_in" 417, .str "fits_in" 418, .str "/claim/cut.py" 419, .int 82 0, .int 2 0, .int 0 0, .int 0 0, .int 3 0, .ref 168, .bool true, .int 181 0, .ref 169, .none, .ref 170, .ref 171, .ref 172, .int 427 0, .int 82 0, .str "/claim/cut.py" 428]) ::
  (nat_lit 174, fo "fits_in" "fits_in" 174 (.none) "ledgerspeak.inspecting" 315 173) ::
  (nat_lit 175, tu #[]) ::
  (nat_lit 178, co #[.str "tallied" 430, .str "tallied" 431, .str "/claim/cut.py" 432, .int 97 0, .int 2 0, .int 0 0, .int 0 0, .int 3 0, .ref 175, .bool true, .int 181 0, .ref 176, .none, .none, .none, .ref 177, .int 433 0, .int 97 0, .str "/claim/cut.py" 434]) ::
  (nat_lit 179, fo "tallied" "tallied" 179 (.none) "ledgerspeak.inspecting" 315 178) ::
  (nat_lit 180, tu #[]) ::
  (nat_lit 183, co #[.str "replaced_in" 436, .str "replaced_in" 437, .str "/claim/cut.py" 438, .int 103 0, .int 2 0, .int 0 0, .int 0 0, .int 3 0, .ref 180, .bool true, .int 181 0, .ref 181, .none, .none, .none, .ref 182, .int 439 0, .int 103 0, .str "/claim/cut.py" 440]) ::
  (nat_lit 184, fo "replaced_in" "replaced_in" 184 (.none) "ledgerspeak.inspecting" 315 183) ::
  (nat_lit 185, tu #[]) ::
  (nat_lit 187, tu #[.str "octets" 445, .str "wanted" 446, .str "given" 447, .str "before" 448, .str "after" 449, .str "begin" 450, .str "end" 451, .str "found" 452, .str "at" 453, .str "octet" 454]) ::
  (nat_lit 188, tu #[]) ::
  (nat_lit 190, co #[.str "converted" 442, .str "converted" 443, .str "/claim/cut.py" 444, .int 111 0, .int 5 0, .int 0 0, .int 0 0, .int 3 0, .ref 185, .bool true, .int 181 0, .ref 186, .none, .ref 187, .ref 188, .ref 189, .int 455 0, .int 111 0, .str "/claim/cut.py" 456]) ::
  (nat_lit 191, fo "converted" "converted" 191 (.none) "ledgerspeak.inspecting" 315 190) ::
  (nat_lit 192, tu #[]) ::
  (nat_lit 194, tu #[.str "operand" 461, .str "hands" 462]) ::
  (nat_lit 195, tu #[]) ::
  (nat_lit 197, co #[.str "sought" 458, .str "sought" 459, .str "/claim/cut.py" 460, .int 121 0, .int 2 0, .int 0 0, .int 0 0, .int 3 0, .ref 192, .bool true, .int 181 0, .ref 193, .none, .ref 194, .ref 195, .ref 196, .int 463 0, .int 121 0, .str "/claim/cut.py" 464]) ::
  (nat_lit 198, fo "sought" "sought" 198 (.none) "ledgerspeak.inspecting" 315 197) ::
  (nat_lit 199, tu #[]) ::
  (nat_lit 201, tu #[.str "operand" 469, .str "wanted" 470, .str "hands" 471]) ::
  (nat_lit 202, tu #[]) ::
  (nat_lit 204, co #[.str "put_in" 466, .str "put_in" 467, .str "/claim/cut.py" 468, .int 123 0, .int 3 0, .int 0 0, .int 0 0, .int 3 0, .ref 199, .bool true, .int 181 0, .ref 200, .none, .ref 201, .ref 202, .ref 203, .int 472 0, .int 123 0, .str "/claim/cut.py" 473]) ::
  (nat_lit 205, fo "put_in" "put_in" 205 (.none) "ledgerspeak.inspecting" 315 204) ::
  (nat_lit 206, tu #[]) ::
  (nat_lit 208, tu #[.str "statement" 478, .str "hands" 479, .str "rows" 480, .str "count" 481, .str "kind" 482, .str "operand" 483, .str "before" 484, .str "after" 485, .str "counts" 486, .str "number" 487, .str "row" 488]) ::
  (nat_lit 209, tu #[]) ::
  (nat_lit 211, co #[.str "tally_with" 475, .str "tally_with" 476, .str "/claim/cut.py" 477, .int 125 0, .int 2 0, .int 0 0, .int 0 0, .int 3 0, .ref 206, .bool true, .int 181 0, .ref 207, .none, .ref 208, .ref 209, .ref 210, .int 489 0, .int 125 0, .str "/claim/cut.py" 490]) ::
  (nat_lit 212, fo "tally_with" "tally_with" 212 (.none) "ledgerspeak.inspecting" 315 211) ::
  (nat_lit 213, tu #[]) ::
  (nat_lit 215, tu #[.str "statement" 495, .str "hands" 496, .str "rows" 497, .str "kind" 498, .str "operand" 499, .str "by" 500, .str "before" 501, .str "after" 502, .str "wanted" 503]) ::
  (nat_lit 216, tu #[]) ::
  (nat_lit 218, co #[.str "replace_with" 492, .str "replace_with" 493, .str "/claim/cut.py" 494, .int 133 0, .int 2 0, .int 0 0, .int 0 0, .int 3 0, .ref 213, .bool true, .int 181 0, .ref 214, .none, .ref 215, .ref 216, .ref 217, .int 504 0, .int 133 0, .str "/claim/cut.py" 505]) ::
  (nat_lit 219, fo "replace_with" "replace_with" 219 (.none) "ledgerspeak.inspecting" 315 218) ::
  (nat_lit 220, tu #[]) ::
  (nat_lit 222, tu #[.str "statement" 510, .str "hands" 511, .str "wanted" 512, .str "given" 513, .str "before" 514, .str "after" 515]) ::
  (nat_lit 223, tu #[]) ::
  (nat_lit 225, co #[.str "convert_with" 507, .str "convert_with" 508, .str "/claim/cut.py" 509, .int 140 0, .int 2 0, .int 0 0, .int 0 0, .int 3 0, .ref 220, .bool true, .int 181 0, .ref 221, .none, .ref 222, .ref 223, .ref 224, .int 516 0, .int 140 0, .str "/claim/cut.py" 517]) ::
  (nat_lit 226, fo "convert_with" "convert_with" 226 (.none) "ledgerspeak.inspecting" 315 225) ::
  (nat_lit 227, tu #[]) ::
  (nat_lit 230, co #[.str "_law_pen" 521, .str "_law_pen" 522, .str "/claim/cut.py" 523, .int 147 0, .int 1 0, .int 0 0, .int 0 0, .int 3 0, .ref 227, .bool true, .int 181 0, .ref 228, .none, .none, .none, .ref 229, .int 524 0, .int 147 0, .str "/claim/cut.py" 525]) ::
  (nat_lit 231, fo "_law_pen" "_law_pen" 231 (.none) "law_og0084_01" 519 230) ::
  (nat_lit 232, tu #[]) ::
  (nat_lit 234, tu #[.str "pen" 530, .str "many" 531, .str "digit" 532, .str "turn" 533, .str "cell" 534, .str "great" 535, .str "mixed" 536]) ::
  (nat_lit 235, tu #[]) ::
  (nat_lit 237, co #[.str "_law_draw" 527, .str "_law_draw" 528, .str "/claim/cut.py" 529, .int 149 0, .int 2 0, .int 0 0, .int 0 0, .int 3 0, .ref 232, .bool true, .int 181 0, .ref 233, .none, .ref 234, .ref 235, .ref 236, .int 537 0, .int 149 0, .str "/claim/cut.py" 538]) ::
  (nat_lit 238, fo "_law_draw" "_law_draw" 238 (.none) "law_og0084_01" 519 237) ::
  (nat_lit 239, tu #[]) ::
  (nat_lit 241, tu #[.str "pen" 543, .str "some" 544]) ::
  (nat_lit 242, tu #[]) ::
  (nat_lit 244, co #[.str "_law_pick" 540, .str "_law_pick" 541, .str "/claim/cut.py" 542, .int 166 0, .int 2 0, .int 0 0, .int 0 0, .int 3 0, .ref 239, .bool true, .int 181 0, .ref 240, .none, .ref 241, .ref 242, .ref 243, .int 545 0, .int 166 0, .str "/claim/cut.py" 546]) ::
  (nat_lit 245, fo "_law_pick" "_law_pick" 245 (.none) "law_og0084_01" 519 244) ::
  (nat_lit 246, tu #[]) ::
  (nat_lit 248, tu #[.str "name" 551]) ::
  (nat_lit 249, tu #[]) ::
  (nat_lit 251, co #[.str "_law_ref" 548, .str "_law_ref" 549, .str "/claim/cut.py" 550, .int 168 0, .int 1 0, .int 0 0, .int 0 0, .int 3 0, .ref 246, .bool true, .int 181 0, .ref 247, .none, .ref 248, .ref 249, .ref 250, .int 552 0, .int 168 0, .str "/claim/cut.py" 553]) ::
  (nat_lit 252, fo "_law_ref" "_law_ref" 252 (.none) "law_og0084_01" 519 251) ::
  (nat_lit 253, tu #[]) ::
  (nat_lit 255, tu #[.str "items" 558, .str "operand" 559, .str "size" 560]) ::
  (nat_lit 256, tu #[]) ::
  (nat_lit 258, co #[.str "_law_fetch" 555, .str "_law_fetch" 556, .str "/claim/cut.py" 557, .int 170 0, .int 3 0, .int 0 0, .int 0 0, .int 3 0, .ref 253, .bool true, .int 181 0, .ref 254, .none, .ref 255, .ref 256, .ref 257, .int 561 0, .int 170 0, .str "/claim/cut.py" 562]) ::
  (nat_lit 259, fo "_law_fetch" "_law_fetch" 259 (.none) "law_og0084_01" 519 258) ::
  (nat_lit 260, tu #[]) ::
  (nat_lit 262, tu #[.str "table" 567, .str "name" 568, .str "worth" 569]) ::
  (nat_lit 263, tu #[]) ::
  (nat_lit 265, co #[.str "_law_put" 564, .str "_law_put" 565, .str "/claim/cut.py" 566, .int 174 0, .int 3 0, .int 0 0, .int 0 0, .int 3 0, .ref 260, .bool true, .int 181 0, .ref 261, .none, .ref 262, .ref 263, .ref 264, .int 570 0, .int 174 0, .str "/claim/cut.py" 571]) ::
  (nat_lit 266, fo "_law_put" "_law_put" 266 (.none) "law_og0084_01" 519 265) ::
  (nat_lit 267, tu #[]) ::
  (nat_lit 269, tu #[.str "items" 576, .str "numbers" 577]) ::
  (nat_lit 270, tu #[.str "items" 578, .str "numbers" 579]) ::
  (nat_lit 272, co #[.str "_law_hands" 573, .str "_law_hands" 574, .str "/claim/cut.py" 575, .int 176 0, .int 2 0, .int 0 0, .int 0 0, .int 3 0, .ref 267, .bool true, .int 181 0, .ref 268, .none, .ref 269, .ref 270, .ref 271, .int 580 0, .int 176 0, .str "/claim/cut.py" 581]) ::
  (nat_lit 273, fo "_law_hands" "_law_hands" 273 (.none) "law_og0084_01" 519 272) ::
  (nat_lit 274, tu #[]) ::
  (nat_lit 277, co #[.str "_law_span" 583, .str "_law_span" 584, .str "/claim/cut.py" 585, .int 185 0, .int 4 0, .int 0 0, .int 0 0, .int 3 0, .ref 274, .bool true, .int 181 0, .ref 275, .none, .none, .none, .ref 276, .int 586 0, .int 185 0, .str "/claim/cut.py" 587]) ::
  (nat_lit 278, fo "_law_span" "_law_span" 278 (.none) "law_og0084_01" 519 277) ::
  (nat_lit 279, tu #[]) ::
  (nat_lit 282, co #[.str "_law_taken" 589, .str "_law_taken" 590, .str "/claim/cut.py" 591, .int 194 0, .int 6 0, .int 0 0, .int 0 0, .int 3 0, .ref 279, .bool true, .int 181 0, .ref 280, .none, .none, .none, .ref 281, .int 592 0, .int 194 0, .str "/claim/cut.py" 593]) ::
  (nat_lit 283, fo "_law_taken" "_law_taken" 283 (.none) "law_og0084_01" 519 282) ::
  (nat_lit 284, tu #[]) ::
  (nat_lit 286, tu #[.str "pen" 598]) ::
  (nat_lit 287, tu #[]) ::
  (nat_lit 289, co #[.str "_law_edge" 595, .str "_law_edge" 596, .str "/claim/cut.py" 597, .int 204 0, .int 1 0, .int 0 0, .int 0 0, .int 3 0, .ref 284, .bool true, .int 181 0, .ref 285, .none, .ref 286, .ref 287, .ref 288, .int 599 0, .int 204 0, .str "/claim/cut.py" 600]) ::
  (nat_lit 290, fo "_law_edge" "_law_edge" 290 (.none) "law_og0084_01" 519 289) ::
  (nat_lit 291, tu #[]) ::
  (nat_lit 294, co #[.str "_law_rows" 602, .str "_law_rows" 603, .str "/claim/cut.py" 604, .int 206 0, .int 2 0, .int 0 0, .int 0 0, .int 3 0, .ref 291, .bool true, .int 181 0, .ref 292, .none, .none, .none, .ref 293, .int 605 0, .int 206 0, .str "/claim/cut.py" 606]) ::
  (nat_lit 295, fo "_law_rows" "_law_rows" 295 (.none) "law_og0084_01" 519 294) ::
  (nat_lit 296, tu #[]) ::
  (nat_lit 298, tu #[.str "items" 611, .str "numbers" 612, .str "ref" 613, .str "rows" 614, .str "octets" 615, .str "due" 616, .str "fresh" 617, .str "counted" 618, .str "count" 619, .str "kind" 620, .str "operand" 621, .str "before" 622, .str "after" 623]) ::
  (nat_lit 299, tu #[]) ::
  (nat_lit 301, co #[.str "_law_tally_done" 608, .str "_law_tally_done" 609, .str "/claim/cut.py" 610, .int 212 0, .int 4 0, .int 0 0, .int 0 0, .int 3 0, .ref 296, .bool true, .int 181 0, .ref 297, .none, .ref 298, .ref 299, .ref 300, .int 624 0, .int 212 0, .str "/claim/cut.py" 625]) ::
  (nat_lit 302, fo "_law_tally_done" "_law_tally_done" 302 (.none) "law_og0084_01" 519 301) ::
  (nat_lit 303, tu #[]) ::
  (nat_lit 305, tu #[.str "items" 630, .str "numbers" 631, .str "ref" 632, .str "rows" 633, .str "octets" 634, .str "fresh" 635, .str "counted" 636, .str "kind" 637, .str "operand" 638, .str "by" 639, .str "before" 640, .str "after" 641, .str "at" 642, .str "told" 643, .str "due" 644]) ::
  (nat_lit 306, tu #[]) ::
  (nat_lit 308, co #[.str "_law_replace_done" 627, .str "_law_replace_done" 628, .str "/claim/cut.py" 629, .int 217 0, .int 4 0, .int 0 0, .int 0 0, .int 3 0, .ref 303, .bool true, .int 181 0, .ref 304, .none, .ref 305, .ref 306, .ref 307, .int 645 0, .int 217 0, .str "/claim/cut.py" 646]) ::
  (nat_lit 309, fo "_law_replace_done" "_law_replace_done" 309 (.none) "law_og0084_01" 519 308) ::
  (nat_lit 310, tu #[]) ::
  (nat_lit 312, tu #[.str "items" 651, .str "numbers" 652, .str "ref" 653, .str "wanted" 654, .str "given" 655, .str "before" 656, .str "after" 657, .str "octets" 658, .str "fresh" 659, .str "counted" 660, .str "row" 661, .str "laid" 662, .str "at" 663, .str "place" 664, .str "told" 665, .str "due" 666]) ::
  (nat_lit 313, tu #[]) ::
  (nat_lit 315, co #[.str "_law_convert_done" 648, .str "_law_convert_done" 649, .str "/claim/cut.py" 650, .int 226 0, .int 7 0, .int 0 0, .int 0 0, .int 3 0, .ref 310, .bool true, .int 181 0, .ref 311, .none, .ref 312, .ref 313, .ref 314, .int 667 0, .int 226 0, .str "/claim/cut.py" 668]) ::
  (nat_lit 316, fo "_law_convert_done" "_law_convert_done" 316 (.none) "law_og0084_01" 519 315) ::
  (nat_lit 317, tu #[]) ::
  (nat_lit 319, tu #[.str "items" 673, .str "numbers" 674, .str "ref" 675, .str "hands" 676]) ::
  (nat_lit 320, tu #[]) ::
  (nat_lit 322, co #[.str "_law_written" 670, .str "_law_written" 671, .str "/claim/cut.py" 672, .int 238 0, .int 0 0, .int 0 0, .int 0 0, .int 3 0, .ref 317, .bool true, .int 181 0, .ref 318, .none, .ref 319, .ref 320, .ref 321, .int 677 0, .int 238 0, .str "/claim/cut.py" 678]) ::
  (nat_lit 323, fo "_law_written" "_law_written" 323 (.none) "law_og0084_01" 519 322) ::
  (nat_lit 324, tu #[]) ::
  (nat_lit 327, co #[.str "law" 680, .str "law" 681, .str "/claim/cut.py" 682, .int 253 0, .int 1 0, .int 0 0, .int 0 0, .int 3 0, .ref 324, .bool true, .int 181 0, .ref 325, .none, .none, .none, .ref 326, .int 683 0, .int 253 0, .str "/claim/cut.py" 684]) ::
  (nat_lit 328, fo "law" "law" 328 (.none) "law_og0084_01" 519 327) :: []
noncomputable def as0 : List Addr := 2 :: 3 :: 15 :: 22 :: 23 :: 24 :: 26 :: 27 :: 29 :: 30 :: 31 :: 33 :: 34 :: 36 :: 37 :: 38 :: 39 :: 40 :: 41 :: 44 :: 51 :: 52 :: 53 :: 56 :: 58 :: 59 :: 61 :: 62 :: 63 :: 65 :: 66 :: 68 :: 69 :: 77 :: 79 :: 80 :: 82 :: 83 :: 84 :: 85 :: 86 :: 87 :: 88 :: 91 :: 93 :: 94 :: 96 :: 97 :: 98 :: 100 :: 101 :: 103 :: 104 :: 105 :: 107 :: 108 :: 110 :: 111 :: 119 :: 121 :: 122 :: 124 :: 125 :: 126 :: 128 :: 129 :: 131 :: 132 :: 133 :: 135 :: 136 :: 138 :: 139 :: 140 :: 142 :: 143 :: 145 :: 146 :: 147 :: 149 :: 150 :: 152 :: 153 :: 154 :: 155 :: 156 :: 157 :: 158 :: 161 :: 163 :: 164 :: 166 :: 167 :: 168 :: 170 :: 171 :: 173 :: 174 :: 175 :: 178 :: 179 :: 180 :: 183 :: 184 :: 185 :: 187 :: 188 :: 190 :: 191 :: 192 :: 194 :: 195 :: 197 :: 198 :: 199 :: 201 :: 202 :: 204 :: 205 :: 206 :: 208 :: 209 :: 211 :: 212 :: 213 :: 215 :: 216 :: 218 :: 219 :: 220 :: 222 :: 223 :: 225 :: 226 :: 227 :: 230 :: 231 :: 232 :: 234 :: 235 :: 237 :: 238 :: 239 :: 241 :: 242 :: 244 :: 245 :: 246 :: 248 :: 249 :: 251 :: 252 :: 253 :: 255 :: 256 :: 258 :: 259 :: 260 :: 262 :: 263 :: 265 :: 266 :: 267 :: 269 :: 270 :: 272 :: 273 :: 274 :: 277 :: 278 :: 279 :: 282 :: 283 :: 284 :: 286 :: 287 :: 289 :: 290 :: 291 :: 294 :: 295 :: 296 :: 298 :: 299 :: 301 :: 302 :: 303 :: 305 :: 306 :: 308 :: 309 :: 310 :: 312 :: 313 :: 315 :: 316 :: 317 :: 319 :: 320 :: 322 :: 323 :: 324 :: 327 :: 328 :: []
noncomputable def keepL : List Nat := [1, 2, 4, 5, 6, 7, 9, 10, 11, 12, 13, 14, 15, 16, 17, 18, 19, 20, 21, 22, 24, 25, 26, 27, 28, 29, 30, 31, 32, 33, 34, 35, 36, 37, 38, 39]
noncomputable def q0 : Program := view PySem.Challenge.pw_og0084_01 keepL
end Mine
end
section
open PySem PySem.W PyProof.Rows
namespace Mine
theorem as0_ok (P : Params) : as0 = (K0 P).map (·.1) := by kernel_rfl
theorem said_ok : PySem.Challenge.rw_og0084_01.wellSaid = true := by
  rw [PySem.W.Fast.te9446332074065402090]
  kernel_rfl
noncomputable abbrev hook : Hook := kmHook K0 as0 as0_ok [268]
noncomputable abbrev Xt0 : Shared → Bool := fun s => xlAt q0 [] s && recOk (RowW.records PySem.Challenge.rw_og0084_01.row.toRowW) s
theorem left_ok : LeftO PySem.Challenge.rw_og0084_01.row.toRowW.prog q0 [Str.ofString "LedgerError"] Xt0 (Hook.obs hook) (Hook.val hook) 4340 := by
  intro w
  unfold openEnds fencedOpening topFrom
  rw [PySem.W.Fast.te10274390034422433532, PySem.W.Fast.te14082659384304107361, PySem.W.Fast.te4187177175401517315, PySem.W.Fast.te14289696077712309145, PySem.W.Fast.te1435165496053646825, PySem.W.Fast.te5923862056798008813, PySem.W.Fast.te14364793385576792824]
  kernel_rfl
end Mine
end
section
open PySem PySem.W PySem.Calls PyProof.Rows PySem.Spec
namespace Mine

noncomputable abbrev KK (P : Params) : Frag := K0 P
theorem elimF {α : Type} {o : Option α} {f : α → Bool} (h : o.elim false f = true) : ∃ a, o = some a ∧ f a = true := by
  induction o using Option.casesOn with
  | none => exact no_true h
  | some a => exact ⟨a, rfl, h⟩
noncomputable def strV (s : Str) : Value → Bool
  | .str s' _ => decide (s' = s)
  | _ => false
theorem strV_eq {v : Value} {s : Str} (h : strV s v = true) : ∃ t, v = .str s t := by
  induction v using PySem.Value.casesOn with
  | str s' t => exact ⟨t, by rw [of_decide_eq_true h]⟩
  | _ => exact no_true h
noncomputable def refV : Value → Option Addr
  | .ref a => some a
  | _ => none
theorem refV_eq {v : Value} {a : Addr} (h : refV v = some a) : v = .ref a := by
  induction v using PySem.Value.casesOn with
  | ref s' => rw [Option.some.inj h]
  | _ => exact no_some h
noncomputable def noneV : Value → Bool
  | .none => true
  | _ => false
theorem noneV_eq {v : Value} (h : noneV v = true) : v = .none := by
  induction v using PySem.Value.casesOn with
  | none => rfl
  | _ => exact no_true h
noncomputable def funcD : Data → Option FuncData
  | .func fd => some fd
  | _ => none
theorem funcD_eq {d : Data} {fd : FuncData} (h : funcD d = some fd) : d = .func fd := by
  induction d using PySem.Data.casesOn with
  | func f => rw [Option.some.inj h]
  | _ => exact no_some h
noncomputable def fieldsD : Data → Option (Array Value)
  | .fields vs => some vs
  | _ => none
theorem fieldsD_eq {d : Data} {vs : Array Value} (h : fieldsD d = some vs) : d = .fields vs := by
  induction d using PySem.Data.casesOn with
  | fields f => rw [Option.some.inj h]
  | _ => exact no_some h
noncomputable def fdK (K : Frag) (a : Addr) : Option FuncData := (K.lookup a).bind fun o => funcD o.data
noncomputable def recK (K : Frag) (cd : Value) (q : Str) : Bool := (refV cd).elim false fun c => (K.lookup c).elim false fun o => (fieldsD o.data).elim false fun vs => (vs[1]? : Option Value).elim false (strV q)
noncomputable def fnP (K : Frag) (d : MDef) (fd : FuncData) : Bool := decide (fd.globals = mainGlobals) && decide (fd.builtins = builtinsNs) && fd.closure.isEmpty && noneV fd.defaults && recK K fd.code fd.qualname &&
      (!d.lam || (refV fd.code == some 272 && decide (fd.qualname = ("_law_hands" : Str))))
noncomputable def fnK (K : Frag) (a : Addr) (d : MDef) : Bool := (fdK K a).elim false (fnP K d) && scopeOk d.scope && plainParams d.params && d.scope.names.all (fun p => p.2 != .free) &&
    d.params.args.all (fun p => d.scope.names.lookup p.arg == some .local || d.scope.names.lookup p.arg == some .cell) && keepIn K (.ref a)

theorem eqs (P : Params) : (defsL.map fun p => (fdK (KK P) p.1).map fun fd => (fd.params, fd.body, fd.scope)) = defsL.map fun p => some (p.2.params, FuncBody.stmts p.2.body, p.2.scope) := by kernel_rfl
theorem fns_ok (P : Params) : (defsL.all fun p => fnK (KK P) p.1 p.2) = true := by kernel_rfl
noncomputable def attrK (K : Frag) (C : Addr) (a : Str) : Bool := plainGet K C a && hasDictIn K C && findIn K (.ref C) a == some none && findIn K (.ref C) "__setattr__" == some (some (.builtin "object.__setattr__")) && plainOver K C && takerIn K C a == some none
noncomputable def methK (K : Frag) (p : (Nat × Str) × Option Nat) : Bool :=
  p.2.elim (attrK K p.1.1 p.1.2) fun f => plainGet K p.1.1 p.1.2 && findIn K (.ref p.1.1) p.1.2 == some (some (.ref f)) && isFn K (.ref f)
noncomputable def initK (K : Frag) (C i : Addr) : Bool := makesIn K C && findIn K (.ref C) "__init__" == some (some (.ref i)) && isFn K (.ref i) && keepIn K (.ref C)
noncomputable def strAt (o : Option (Option Value)) (s : Str) : Bool := o.elim false fun o => o.elim false (strV s)
theorem strAt_eq {o : Option (Option Value)} {s : Str} (h : strAt o s = true) : ∃ t, o = some (some (.str s t)) := by
  obtain ⟨p, e1, h1⟩ := elimF h
  obtain ⟨v, e2, h2⟩ := elimF h1
  obtain ⟨t, e3⟩ := strV_eq h2
  exact ⟨t, by rw [e1, e2, e3]⟩
noncomputable def globK (K : Frag) (x : Str) : MV → Bool
  | .fn a => nsIn K mainGlobals x == some (some (.ref a))
  | .cls a => nsIn K mainGlobals x == some (some (.ref a))
  | .bi b => nsIn K mainGlobals x == some none && bootBuiltins x == some b.val && x != ("__name__" : Str)
  | .str s => strAt (nsIn K mainGlobals x) s
  | _ => false
theorem meth_ok (P : Params) : (methL.all (methK (KK P))) = true := by kernel_rfl
theorem init_ok (P : Params) : (initL.all fun p => initK (KK P) p.1 p.2) = true := by kernel_rfl
theorem glob_ok (P : Params) : (globL.all fun p => globK (KK P) p.1 p.2) = true := by kernel_rfl
theorem head_ok (P : Params) : codeHdIn (KK P) 272 268 = true := by kernel_rfl
theorem low_ok (P : Params) : ((KK P).lookup 3).isSome = true := by kernel_rfl
theorem recK_spec {K : Frag} {h : Heap} (X : K.In h) {cd : Value} {q : Str} (e : recK K cd q = true) : h.CodeRec cd q := by
  obtain ⟨c, h1, e⟩ := elimF e
  obtain ⟨o, h2, e⟩ := elimF e
  obtain ⟨vs, h3, e⟩ := elimF e
  obtain ⟨v, h4, e⟩ := elimF e
  obtain ⟨t, e⟩ := strV_eq e
  exact ⟨c, o, vs, t, refV_eq h1, X _ _ h2, fieldsD_eq h3, h4.trans (congrArg some e)⟩
theorem map_mem {α β : Type} {f g : α → β} {l : List α} (h : l.map f = l.map g) {a : α} (ha : a ∈ l) : f a = g a := List.map_inj_left.mp h a ha
theorem lookup_mem {α β : Type} [BEq α] [LawfulBEq α] : ∀ {l : List (α × β)} {a : α} {b : β}, l.lookup a = some b → (a, b) ∈ l
  | [], _, _, h => by cases h
  | (x, y) :: r, a, b, h => by
    rw [List.lookup_cons] at h
    cases hb : a == x with
    | true => rw [hb] at h; cases h; rw [eq_of_beq hb]; exact .head _
    | false => rw [hb] at h; exact .tail _ (lookup_mem h)

section
variable {w : World} {prog : Program} {hb : Heap} {mg mb : Str → Option Value}
noncomputable abbrev baseB (prog : Program) (w : World) (hb : Heap) (mg mb : Str → Option Value) : Base := ⟨prog, w, lawP, hb, 268, 272, mg, mb⟩

theorem fnOk_of {K : Frag} (X : K.In hb) {a : Addr} {d : MDef} (e1 : (fdK K a).map (fun fd => (fd.params, fd.body, fd.scope)) = some (d.params, FuncBody.stmts d.body, d.scope)) (e2 : fnK K a d = true) :
    FnOk (baseB prog w hb mg mb) a d ∧ keepIn K (.ref a) = true := by
  have e3 : ((fdK K a).elim false (fnP K d) && scopeOk d.scope && plainParams d.params && d.scope.names.all (fun p => p.2 != .free) &&
    d.params.args.all (fun p => d.scope.names.lookup p.arg == some .local || d.scope.names.lookup p.arg == some .cell) && keepIn K (.ref a)) = true := e2
  clear e2
  simp only [Bool.and_eq_true] at e3
  obtain ⟨⟨⟨⟨⟨c1, c2⟩, c3⟩, c4⟩, c5⟩, c6⟩ := e3
  obtain ⟨fd, hk, g⟩ := elimF c1
  rw [hk] at e1
  clear c1
  have e4 := Option.some.inj (show some (fd.params, fd.body, fd.scope) = some (d.params, FuncBody.stmts d.body, d.scope) from e1)
  clear e1
  have p1 := congrArg Prod.fst e4
  have p2 := congrArg (fun x => x.2.1) e4
  have p3 := congrArg (fun x => x.2.2) e4
  clear e4
  obtain ⟨o, ho, hf⟩ := bind_some hk
  have g : (decide (fd.globals = mainGlobals) && decide (fd.builtins = builtinsNs) && fd.closure.isEmpty && noneV fd.defaults && recK K fd.code fd.qualname &&
      (!d.lam || (refV fd.code == some 272 && decide (fd.qualname = ("_law_hands" : Str))))) = true := g
  simp only [Bool.and_eq_true] at g
  obtain ⟨⟨⟨⟨⟨b1, b2⟩, b3⟩, b4⟩, b5⟩, b6⟩ := g
  refine ⟨⟨⟨o, fd, X _ _ ho, funcD_eq hf, p1, p2, p3, of_decide_eq_true b1, of_decide_eq_true b2, List.isEmpty_iff.mp b3, noneV_eq b4, recK_spec X b5, fun hl => ?_⟩, c2, c3, fun p hp => ?_, fun x hx => ?_⟩, c6⟩
  · rw [hl] at b6
    have b7 : (refV fd.code == some 272 && decide (fd.qualname = ("_law_hands" : Str))) = true := b6
    rw [Bool.and_eq_true, beq_iff_eq] at b7
    exact ⟨refV_eq b7.1, of_decide_eq_true b7.2⟩
  · exact bne_iff_ne.mp (List.all_eq_true.mp c4 p hp)
  · obtain ⟨p, hp, rfl⟩ := List.mem_map.mp hx
    have := List.all_eq_true.mp c5 p hp
    rw [Bool.or_eq_true, beq_iff_eq, beq_iff_eq] at this
    exact this

theorem meth_parts {K : Frag} {C f : Nat} {a : Str} (h : methK K ((C, a), some f) = true) : plainGet K C a = true ∧ findIn K (.ref C) a = some (some (.ref f)) ∧ isFn K (.ref f) = true := by
  have e : (plainGet K C a && findIn K (.ref C) a == some (some (.ref f)) && isFn K (.ref f)) = true := h
  rw [Bool.and_eq_true, Bool.and_eq_true, beq_iff_eq] at e
  exact ⟨e.1.1, e.1.2, e.2⟩
theorem attr_parts {K : Frag} {C : Nat} {a : Str} (h : methK K ((C, a), none) = true) : plainGet K C a = true ∧ hasDictIn K C = true ∧ findIn K (.ref C) a = some none ∧ findIn K (.ref C) "__setattr__" = some (some (.builtin "object.__setattr__")) ∧ plainOver K C = true ∧ takerIn K C a = some none := by
  have e : (plainGet K C a && hasDictIn K C && findIn K (.ref C) a == some none && findIn K (.ref C) "__setattr__" == some (some (.builtin "object.__setattr__")) && plainOver K C && takerIn K C a == some none) = true := h
  simp only [Bool.and_eq_true, beq_iff_eq] at e
  exact ⟨e.1.1.1.1.1, e.1.1.1.1.2, e.1.1.1.2, e.1.1.2, e.1.2, e.2⟩
theorem init_parts {K : Frag} {C i : Nat} (h : initK K C i = true) : makesIn K C = true ∧ findIn K (.ref C) "__init__" = some (some (.ref i)) ∧ isFn K (.ref i) = true ∧ keepIn K (.ref C) = true := by
  have e : (makesIn K C && findIn K (.ref C) "__init__" == some (some (.ref i)) && isFn K (.ref i) && keepIn K (.ref C)) = true := h
  rw [Bool.and_eq_true, Bool.and_eq_true, Bool.and_eq_true, beq_iff_eq] at e
  exact ⟨e.1.1.1, e.1.1.2, e.1.2, e.2⟩

theorem ok_of {loose : List Str} {mean : ExcName → Option Value} (X : (KK w.params).In hb) (T : Top topProg loose mean mg mb hb) (C : CodeHd hb 272 268) (tab0 : hb.get? 268 = none) : Ok (baseB prog w hb mg mb) (KK w.params) := by
  have big : 268 < hb.objs.size := by
    obtain ⟨o, vs, file, tf, flags, tg, inF, text, tt, e, _⟩ := C
    exact Nat.lt_trans (by decide) (Heap.lt_size e)
  have hf : ∀ a d, lawP.defs a = some d → FnOk (baseB prog w hb mg mb) a d ∧ keepIn (KK w.params) (.ref a) = true := fun a d h => by
    have hm := lookup_mem (show defsL.lookup a = some d from h)
    exact fnOk_of X (map_mem (eqs w.params) hm) (List.all_eq_true.mp (fns_ok w.params) _ hm)
  have hi : ∀ C i, lawP.init C = some i → initK (KK w.params) C i = true := fun C i h => List.all_eq_true.mp (init_ok w.params) _ (lookup_mem (show initL.lookup C = some i from h))
  have hm : ∀ C a o, lawP.meth C a = some o → methK (KK w.params) ((C, a), o) = true := fun C a o h => List.all_eq_true.mp (meth_ok w.params) _ (lookup_mem (show methL.lookup (C, a) = some o from h))
  exact
  { kin := X
    meth := fun C a f h => meth_parts (hm C a _ h)
    attr := fun C a h => attr_parts (hm C a _ h)
    init := fun C i h => ⟨(init_parts (hi C i h)).1, (init_parts (hi C i h)).2.1, (init_parts (hi C i h)).2.2.1⟩
    ng := T.g
    nb := T.b
    glob := fun x m h => by
      have e : globK (KK w.params) x m = true := List.all_eq_true.mp (glob_ok w.params) _ (lookup_mem (show globL.lookup x = some m from h))
      clear h
      induction m using MV.casesOn with
      | fn a => exact ⟨_, .inl (mg_of X T.g (beq_iff_eq.mp e)), .fn _⟩
      | cls a => exact ⟨_, .inl (mg_of X T.g (beq_iff_eq.mp e)), .cls _⟩
      | bi b =>
        have e : (nsIn (KK w.params) mainGlobals x == some none && bootBuiltins x == some b.val && x != ("__name__" : Str)) = true := e
        rw [Bool.and_eq_true, Bool.and_eq_true, beq_iff_eq, beq_iff_eq, bne_iff_ne] at e
        exact ⟨b.val, .inr ⟨mg_none_of X T.g e.1.1, (T.builtins x e.2).trans e.1.2⟩, .bi b⟩
      | str s =>
        obtain ⟨t, ht⟩ := strAt_eq e
        exact ⟨_, .inl (mg_of X T.g ht), .str _ t⟩
      | _ => exact no_true e
    big := Nat.lt_trans (show (1 : Nat) < 268 by decide) big
    keepF := fun a d h => (hf a d h).2
    keepC := fun C i h => (init_parts (hi C i h)).2.2.2
    lim := T.nolimit
    fns := fun a d h => (hf a d h).1
    tab0 := tab0
    head := C
    bmain := by
      obtain ⟨bm, ob, b1, b2, b3, b4, b5, b6⟩ := T.bmain
      refine ⟨bm, ob, b1, b2, fun q => ?_, fun q => ?_, b3, b4, b5, b6⟩
      · obtain ⟨o, es, ep, ho, hd, _⟩ := T.g
        rw [q, ho] at b3; cases b3
        rw [hd] at b6; cases b6
      · rw [q, show (baseB prog w hb mg mb).tab = 268 from rfl, tab0] at b3; cases b3 }
end
end Mine
end
section
open PySem
namespace Mine.Wk
inductive W2 {α β : Type} (o : Option (α × β)) (Q : α → β → Prop) : Prop where
  | intro (a : α) (b : β) (h : o = some (a, b)) (q : Q a b) : W2 o Q
inductive W3 {α β γ : Type} (o : Option (α × β × γ)) (Q : α → β → γ → Prop) : Prop where
  | intro (a : α) (b : β) (c : γ) (h : o = some (a, b, c)) (q : Q a b c) : W3 o Q

theorem W2.mk {α β : Type} {o : Option (α × β)} {Q : α → β → Prop} {a b} (h : o = some (a, b)) (q : Q a b) : W2 o Q := ⟨a, b, h, q⟩
theorem W3.mk {α β γ : Type} {o : Option (α × β × γ)} {Q : α → β → γ → Prop} {a b c} (h : o = some (a, b, c)) (q : Q a b c) : W3 o Q := ⟨a, b, c, h, q⟩
theorem W2.imp {α β : Type} {o : Option (α × β)} {Q Q' : α → β → Prop} (w : W2 o Q) (h : ∀ a b, Q a b → Q' a b) : W2 o Q' := by
  obtain ⟨a, b, e, q⟩ := w; exact ⟨a, b, e, h _ _ q⟩
theorem W3.imp {α β γ : Type} {o : Option (α × β × γ)} {Q Q' : α → β → γ → Prop} (w : W3 o Q) (h : ∀ a b c, Q a b c → Q' a b c) : W3 o Q' := by
  obtain ⟨a, b, c, e, q⟩ := w; exact ⟨a, b, c, e, h _ _ _ q⟩

/-- what comes behind a statement -/
noncomputable def thenX (K : Lc → St → Prop) (Q : MF → Lc → St → Prop) : MF → Lc → St → Prop
  | .next, lc, st => K lc st
  | f, lc, st => Q f lc st
/-- what comes behind one turn of a loop -/
noncomputable def turnX (K : Lc → St → Prop) (Q : MF → Lc → St → Prop) : MF → Lc → St → Prop
  | .ret v, lc, st => Q (.ret v) lc st
  | .brk, lc, st => Q .next lc st
  | _, lc, st => K lc st
/-- what a call gives back -/
noncomputable def retX (Q : MV → St → Prop) : MF → Lc → St → Prop
  | .ret v, _, st => Q v st
  | _, _, st => Q .none st
/-! what comes behind, by names: so a proof's terms stay small -/
section
variable (P : MP) (R : Rec) (n : Nat) (me : ME) (lc : Lc)
noncomputable abbrev KEvs (r : List Expr) (Q : List MV → St → Prop) : MV → St → Prop := fun v st => W2 (evs R r me lc st) fun vs st => Q (v :: vs) st
noncomputable abbrev KBool (Q : MV → St → Prop) : Bool → St → Prop := fun b st => Q (.bool b) st
noncomputable abbrev KIsB (Q : Bool → St → Prop) : MV → St → Prop := fun v st => ∃ b, v = .bool b ∧ Q b st
noncomputable abbrev KAndV (es : List Expr) (Q : Bool → St → Prop) : MV → St → Prop := fun v st => ∃ b, v = .bool b ∧ (b = true → W2 (boolV R .And es me lc st) Q) ∧ (b = false → Q false st)
noncomputable abbrev KOrV (es : List Expr) (Q : Bool → St → Prop) : MV → St → Prop := fun v st => ∃ b, v = .bool b ∧ (b = false → W2 (boolV R .Or es me lc st) Q) ∧ (b = true → Q true st)
noncomputable abbrev KBin2 (op : Operator) (a : MV) (Q : MV → St → Prop) : MV → St → Prop := fun b st => W2 (bop op a b st) Q
noncomputable abbrev KBin1 (r : Expr) (op : Operator) (Q : MV → St → Prop) : MV → St → Prop := fun a st => W2 (R.ev r me lc st) (KBin2 op a Q)
noncomputable abbrev KRep2 (v : MV) (Q : MV → St → Prop) : MV → St → Prop := fun b st => ∃ k : Nat, b = .int k ∧ k ≤ 1048576 ∧ Q (.loc st.length) (st ++ [.list (List.replicate k v)])
noncomputable abbrev KRep1 (r : Expr) (Q : MV → St → Prop) : MV → St → Prop := fun v st => W2 (R.ev r me lc st) (KRep2 v Q)
noncomputable abbrev KNot (Q : MV → St → Prop) : MV → St → Prop := fun v st => ∃ b, v = .bool b ∧ Q (.bool (!b)) st
noncomputable abbrev KNeg (Q : MV → St → Prop) : MV → St → Prop := fun v st => ∃ i, v = .int i ∧ Q (.int (-i)) st
noncomputable abbrev KIf (b o : Expr) (Q : MV → St → Prop) : Bool → St → Prop := fun c st => (c = true → W2 (R.ev b me lc st) Q) ∧ (c = false → W2 (R.ev o me lc st) Q)
noncomputable abbrev KTup (Q : MV → St → Prop) : List MV → St → Prop := fun vs st => Q (.tup vs) st
noncomputable abbrev KLst (Q : MV → St → Prop) : List MV → St → Prop := fun vs st => Q (.lst vs) st
noncomputable abbrev KNewL (Q : MV → St → Prop) : List MV → St → Prop := fun vs st => Q (.loc st.length) (st ++ [.list vs])
noncomputable abbrev KNewD (Q : MV → St → Prop) : List (Str × MV) → St → Prop := fun es st => Q (.loc st.length) (st ++ [.dict es])
noncomputable abbrev KSubD2 (es : List (Str × MV)) (Q : MV → St → Prop) : MV → St → Prop := fun k st => ∃ s v, k = .str s ∧ es.lookup s = some v ∧ Q v st
noncomputable abbrev KSubD1 (i : Expr) (Q : MV → St → Prop) : List (Str × MV) → St → Prop := fun es st => W2 (R.ev i me lc st) (KSubD2 es Q)
noncomputable abbrev KSl3 (o : MV) (a : Option Int) (Q : MV → St → Prop) : Option Int → St → Prop := fun b st => ∃ r, sliceM o a b = some r ∧ Q r st
noncomputable abbrev KSl2 (hi : Option Expr) (o : MV) (Q : MV → St → Prop) : Option Int → St → Prop := fun a st => W2 (evOpt R hi me lc st) (KSl3 o a Q)
noncomputable abbrev KSl1 (lo hi : Option Expr) (Q : MV → St → Prop) : MV → St → Prop := fun o st => W2 (evOpt R lo me lc st) (KSl2 R me lc hi o Q)
noncomputable abbrev KSub2 (o : MV) (Q : MV → St → Prop) : MV → St → Prop := fun k st => ∃ r, getItemM o k st = some r ∧ Q r st
noncomputable abbrev KSub1 (i : Expr) (Q : MV → St → Prop) : MV → St → Prop := fun o st => W2 (R.ev i me lc st) (KSub2 o Q)
noncomputable abbrev KAttr (a : Str) (Q : MV → St → Prop) : MV → St → Prop := fun o st => ∃ v, attrM P o a st = some v ∧ Q v st
noncomputable abbrev KChain (ops : List CmpOp) (cs : List Expr) (Q : Bool → St → Prop) : MV → St → Prop := fun a st => W2 (chain R a ops cs me lc st) Q
noncomputable abbrev KMeth (m : Str) (args : List Expr) (Q : MV → St → Prop) : MV → St → Prop := fun ov st => W2 (callMeth P R ov m args me lc st) Q
noncomputable abbrev KCall2 (fv : MV) (Q : MV → St → Prop) : List MV → St → Prop := fun vs st => W2 (R.call fv vs st) Q
noncomputable abbrev KCall1 (args : List Expr) (Q : MV → St → Prop) : MV → St → Prop := fun fv st => callable P fv = true ∧ W2 (evs R args me lc st) (KCall2 R fv Q)
noncomputable abbrev KComp (elt t : Expr) (ifs : List Expr) (scope : Scope) (Q : MV → St → Prop) : MV → St → Prop := fun v st => ∃ i, itOf v st = some i ∧ W2 (R.comp elt t ifs i [] ⟨relabelM me scope, capture me lc scope, fun x => scope.names.lookup x == some .cell, false⟩ Lc.nil st) (KLst Q)
noncomputable abbrev KOpt (Q : Option Int → St → Prop) : MV → St → Prop := fun v st => ∃ i, v = .int i ∧ Q (some i) st
noncomputable abbrev KD2 (k : Str) (v : MV) (Q : List (Str × MV) → St → Prop) : List (Str × MV) → St → Prop := fun r st => (r.lookup k).isSome = false ∧ Q ((k, v) :: r) st
noncomputable abbrev KD1 (k : Str) (ks : List (Option Expr)) (vs : List Expr) (Q : List (Str × MV) → St → Prop) : MV → St → Prop := fun v st => W2 (dictOf? R ks vs me lc st) (KD2 k v Q)
noncomputable abbrev KCmp (op : CmpOp) (a : MV) (Q : Bool → St → Prop) : MV → St → Prop := fun b st => ∃ r, cmp op a b st = some r ∧ Q r st
noncomputable abbrev KCmps (op : CmpOp) (ops : List CmpOp) (es : List Expr) (a : MV) (Q : Bool → St → Prop) : MV → St → Prop := fun b st => ∃ r, cmp op a b st = some r ∧ (r = true → W2 (chain R b ops es me lc st) Q) ∧ (r = false → Q false st)
noncomputable abbrev KAndM (r : List Expr) (Q : Bool → St → Prop) : Bool → St → Prop := fun b st => (b = true → W2 (boolM R .And r me lc st) Q) ∧ (b = false → Q false st)
noncomputable abbrev KOrM (r : List Expr) (Q : Bool → St → Prop) : Bool → St → Prop := fun b st => (b = false → W2 (boolM R .Or r me lc st) Q) ∧ (b = true → Q true st)
noncomputable abbrev KNotB (Q : Bool → St → Prop) : Bool → St → Prop := fun b st => Q (!b) st
noncomputable abbrev KExs (r : List Stmt) (X : MF → Lc → St → Prop) : Lc → St → Prop := fun lc st => W3 (exs R r me lc st) X
noncomputable abbrev KRet (X : MF → Lc → St → Prop) : MV → St → Prop := fun v st => X (.ret v) lc st
noncomputable abbrev KNext (X : MF → Lc → St → Prop) : MV → St → Prop := fun _ st => X .next lc st
noncomputable abbrev KNx (X : MF → Lc → St → Prop) : Lc → St → Prop := fun lc st => X .next lc st
noncomputable abbrev KAsg (t : Expr) (X : MF → Lc → St → Prop) : MV → St → Prop := fun v st => W2 (assignF P R t v me lc st) (KNx X)
noncomputable abbrev KIfX (b o : List Stmt) (X : MF → Lc → St → Prop) : Bool → St → Prop := fun c st => (c = true → W3 (exs R b me lc st) X) ∧ (c = false → W3 (exs R o me lc st) X)
noncomputable abbrev KFor (t : Expr) (b : List Stmt) (X : MF → Lc → St → Prop) : It → St → Prop := fun i st => W3 (R.loop t i b me lc st) X
noncomputable abbrev KIter (Q : It → St → Prop) : MV → St → Prop := fun v st => ∃ i, itOf v st = some i ∧ Q i st
noncomputable abbrev KEnum (Q : It → St → Prop) : MV → St → Prop := fun v st => ∃ i, itOf v st = some i ∧ isRng i = false ∧ Q (.enm 0 i) st
noncomputable abbrev KTests (r : List Expr) (Q : Bool → St → Prop) : Bool → St → Prop := fun b st => (b = true → W2 (tests R r me lc st) Q) ∧ (b = false → Q false st)
noncomputable abbrev KAsgS2 (ov v : MV) (Q : Lc → St → Prop) : MV → St → Prop := fun iv st => ∃ st', setItemM ov iv v st = some st' ∧ Q lc st'
noncomputable abbrev KAsgS1 (i : Expr) (v : MV) (Q : Lc → St → Prop) : MV → St → Prop := fun ov st => W2 (R.ev i me lc st) (KAsgS2 lc ov v Q)
noncomputable abbrev KAsgA (a : Str) (v : MV) (Q : Lc → St → Prop) : MV → St → Prop := fun ov st => ∃ st', setAttrM P ov a v st = some st' ∧ Q lc st'
noncomputable abbrev KMfn (f : MV) (o : MV) (Q : MV → St → Prop) : List MV → St → Prop := fun vs st => W2 (R.call f (o :: vs) st) Q
noncomputable abbrev KApp (l : Nat) (Q : MV → St → Prop) : List MV → St → Prop := fun vs st => ∃ v xs, vs = [v] ∧ st[l]? = some (.list xs) ∧ xs.length ≤ 1048576 ∧ Q .none (st.set l (.list (xs ++ [v])))
end
theorem thenX_next {K : Lc → St → Prop} {Q : MF → Lc → St → Prop} {lc st} (h : K lc st) : thenX K Q .next lc st := h
theorem thenX_ret {K : Lc → St → Prop} {Q : MF → Lc → St → Prop} {v lc st} (h : Q (.ret v) lc st) : thenX K Q (.ret v) lc st := h
theorem turnX_next {K : Lc → St → Prop} {Q : MF → Lc → St → Prop} {lc st} (h : K lc st) : turnX K Q .next lc st := h
theorem turnX_ret {K : Lc → St → Prop} {Q : MF → Lc → St → Prop} {v lc st} (h : Q (.ret v) lc st) : turnX K Q (.ret v) lc st := h
theorem retX_next {Q : MV → St → Prop} {lc : Lc} {st} (h : Q .none st) : retX Q .next lc st := h
theorem retX_ret {Q : MV → St → Prop} {v} {lc : Lc} {st} (h : Q v st) : retX Q (.ret v) lc st := h

section
variable {P : MP} {R : Rec} {n : Nat} {me : ME} {lc : Lc} {st : St} {Q : MV → St → Prop} {X : MF → Lc → St → Prop}

theorem run_ev : (run P (n + 1)).ev = evF P (run P n) := rfl
theorem run_tr : (run P (n + 1)).tr = trF (run P n) := rfl
theorem run_ex : (run P (n + 1)).ex = exF P (run P n) := rfl
theorem run_call : (run P (n + 1)).call = callF P (run P n) := rfl
/-! expressions -/
theorem ev_const {c : Const} {v : MV} {a b} (h : constM c = some v) (q : Q v st) : W2 ((run P (n + 1)).ev (.Constant c a b) me lc st) Q :=
  ⟨v, st, by show (constM c).map _ = _; rw [h]; rfl, q⟩
theorem ev_name {x : Str} {v : MV} {p} (h : getName P me lc x = some v) (q : Q v st) : W2 ((run P (n + 1)).ev (.Name x p) me lc st) Q :=
  ⟨v, st, by show (getName P me lc x).map _ = _; rw [h]; rfl, q⟩
theorem ev_boolop {op vs p} (h : W2 (boolV (run P n) op vs me lc st) (KBool Q)) : W2 ((run P (n + 1)).ev (.BoolOp op vs p) me lc st) Q := by
  obtain ⟨b, s, e, q⟩ := h
  exact ⟨_, s, by show (boolV (run P n) op vs me lc st).map _ = _; rw [e]; rfl, q⟩
theorem boolV_one {op e} {Q : Bool → St → Prop} (h : W2 (R.ev e me lc st) (KIsB Q)) : W2 (boolV R op [e] me lc st) Q := by
  obtain ⟨v, s, e', b, rfl, q⟩ := h
  exact ⟨b, s, by show Option.bind (R.ev e me lc st) _ = _; rw [e']; rfl, q⟩
theorem boolV_and {e e2 r} {Q : Bool → St → Prop} (h : W2 (R.ev e me lc st) (KAndV R me lc (e2 :: r) Q)) :
    W2 (boolV R .And (e :: e2 :: r) me lc st) Q := by
  obtain ⟨v, s, e', b, rfl, q, q'⟩ := h
  cases b
  · exact ⟨false, s, by show Option.bind (R.ev e me lc st) _ = _; rw [e']; rfl, q' rfl⟩
  · obtain ⟨b, s', e2', q⟩ := q rfl
    exact ⟨b, s', by show Option.bind (R.ev e me lc st) _ = _; rw [e']; exact e2', q⟩
theorem boolV_or {e e2 r} {Q : Bool → St → Prop} (h : W2 (R.ev e me lc st) (KOrV R me lc (e2 :: r) Q)) :
    W2 (boolV R .Or (e :: e2 :: r) me lc st) Q := by
  obtain ⟨v, s, e', b, rfl, q, q'⟩ := h
  cases b
  · obtain ⟨b, s', e2', q⟩ := q rfl
    exact ⟨b, s', by show Option.bind (R.ev e me lc st) _ = _; rw [e']; exact e2', q⟩
  · exact ⟨true, s, by show Option.bind (R.ev e me lc st) _ = _; rw [e']; rfl, q' rfl⟩
theorem ev_bin {l op r p} (heq : evF P (run P n) (.BinOp l op r p) me lc st = ((run P n).ev l me lc st).bind fun (a, st) => ((run P n).ev r me lc st).bind fun (b, st) => bop op a b st)
    (h : W2 ((run P n).ev l me lc st) (KBin1 (run P n) me lc r op Q)) : W2 ((run P (n + 1)).ev (.BinOp l op r p) me lc st) Q := by
  obtain ⟨a, s, e, b, s', e', v, s'', e'', q⟩ := h
  refine ⟨v, s'', ?_, q⟩
  rw [run_ev, heq, e]; simp only [Option.bind_some]; rw [e']; exact e''
theorem ev_rep {e r p1 p3} (hs : isStarred e = false) (h : W2 ((run P n).ev e me lc st) (KRep1 (run P n) me lc r Q)) :
    W2 ((run P (n + 1)).ev (.BinOp (.List [e] p1) .Mult r p3) me lc st) Q := by
  obtain ⟨v, s, e1, b, s', e2, k, rfl, hk, q⟩ := h
  refine ⟨_, _, ?_, q⟩
  show (if isStarred e then _ else Option.bind ((run P n).ev e me lc st) _) = _
  rw [hs, e1]
  show Option.bind ((run P n).ev r me lc s) _ = _
  rw [e2]
  show (if _ then _ else _) = _
  rw [if_pos (by simp; omega)]
  simp
theorem ev_not {x p} (h : W2 ((run P n).ev x me lc st) (KNot Q)) : W2 ((run P (n + 1)).ev (.UnaryOp .Not x p) me lc st) Q := by
  obtain ⟨v, s, e, b, rfl, q⟩ := h
  exact ⟨_, s, by show Option.bind ((run P n).ev x me lc st) _ = _; rw [e]; rfl, q⟩
theorem ev_neg {x p} (h : W2 ((run P n).ev x me lc st) (KNeg Q)) : W2 ((run P (n + 1)).ev (.UnaryOp .USub x p) me lc st) Q := by
  obtain ⟨v, s, e, b, rfl, q⟩ := h
  exact ⟨_, s, by show Option.bind ((run P n).ev x me lc st) _ = _; rw [e]; rfl, q⟩
theorem ev_if {t b o p} (h : W2 ((run P n).tr t me lc st) (KIf (run P n) me lc b o Q)) :
    W2 ((run P (n + 1)).ev (.IfExp t b o p) me lc st) Q := by
  obtain ⟨c, s, e, h1, h2⟩ := h
  cases c
  · obtain ⟨v, s', e', q⟩ := h2 rfl
    exact ⟨v, s', by show Option.bind ((run P n).tr t me lc st) _ = _; rw [e]; exact e', q⟩
  · obtain ⟨v, s', e', q⟩ := h1 rfl
    exact ⟨v, s', by show Option.bind ((run P n).tr t me lc st) _ = _; rw [e]; exact e', q⟩
theorem ev_tuple {es c p} (hs : (es.any isStarred || decide (1048576 < es.length)) = false) (h : W2 (evs (run P n) es me lc st) (KTup Q)) :
    W2 ((run P (n + 1)).ev (.Tuple es c p) me lc st) Q := by
  obtain ⟨vs, s, e, q⟩ := h
  exact ⟨_, s, by show (if (es.any isStarred || decide (1048576 < es.length)) then _ else Option.map _ (evs (run P n) es me lc st)) = _; rw [hs, e]; rfl, q⟩
theorem ev_list0 {p} (q : Q (.loc st.length) (st ++ [.list []])) : W2 ((run P (n + 1)).ev (.List [] p) me lc st) Q := ⟨_, _, rfl, q⟩
theorem ev_list {e es p} (hs : ((e :: es).any isStarred || decide (1048576 < (e :: es).length)) = false) (hc : isComp e = false) (h : W2 (evs (run P n) (e :: es) me lc st) (KLst Q)) :
    W2 ((run P (n + 1)).ev (.List (e :: es) p) me lc st) Q := by
  obtain ⟨vs, s, e', q⟩ := h
  exact ⟨_, s, by show (if ((e :: es).any isStarred || decide (1048576 < (e :: es).length)) then _ else Option.map _ (evs (run P n) (e :: es) me lc st)) = _; rw [hs, e']; show some (if isComp e then _ else _) = _; rw [hc]; rfl, q⟩
theorem ev_listc {e es p} (hs : ((e :: es).any isStarred || decide (1048576 < (e :: es).length)) = false) (hc : isComp e = true) (h : W2 (evs (run P n) (e :: es) me lc st) (KNewL Q)) :
    W2 ((run P (n + 1)).ev (.List (e :: es) p) me lc st) Q := by
  obtain ⟨vs, s, e', q⟩ := h
  exact ⟨_, _, by show (if ((e :: es).any isStarred || decide (1048576 < (e :: es).length)) then _ else Option.map _ (evs (run P n) (e :: es) me lc st)) = _; rw [hs, e']; show some (if isComp e then _ else _) = _; rw [hc]; rfl, q⟩
theorem ev_dict {ks vs p} (hs : (decide (0 < vs.length) && decide (vs.length ≤ 15)) = true) (h : W2 (dictOf? (run P n) ks vs me lc st) (KNewD Q)) :
    W2 ((run P (n + 1)).ev (.Dict ks vs p) me lc st) Q := by
  obtain ⟨es, s, e, q⟩ := h
  exact ⟨_, _, by show (if (decide (0 < vs.length) && decide (vs.length ≤ 15)) then Option.map _ (dictOf? (run P n) ks vs me lc st) else _) = _; rw [hs, e]; rfl, q⟩
theorem ev_subdict {ks vs p i p2} (hs : (isSlice i || decide (15 < vs.length) || decide (vs.length = 0)) = false)
    (h : W2 (dictOf? (run P n) ks vs me lc st) (KSubD1 (run P n) me lc i Q)) :
    W2 ((run P (n + 1)).ev (.Subscript (.Dict ks vs p) i p2) me lc st) Q := by
  obtain ⟨es, s, e, k, s', e', x, v, rfl, hl, q⟩ := h
  exact ⟨v, s', by
    show (if (isSlice i || decide (15 < vs.length) || decide (vs.length = 0)) then _ else Option.bind (dictOf? (run P n) ks vs me lc st) _) = _
    rw [hs, e]
    show Option.bind ((run P n).ev i me lc s) _ = _
    rw [e']; show Option.map _ _ = _; rw [hl]; rfl, q⟩
theorem ev_slice {v lo hi p p2} (heq : evF P (run P n) (.Subscript v (.Slice lo hi none p) p2) me lc st = ((run P n).ev v me lc st).bind fun (o, st) => (evOpt (run P n) lo me lc st).bind fun (a, st) => (evOpt (run P n) hi me lc st).bind fun (b, st) =>
      (sliceM o a b).map fun r => (r, st))
    (h : W2 ((run P n).ev v me lc st) (KSl1 (run P n) me lc lo hi Q)) :
    W2 ((run P (n + 1)).ev (.Subscript v (.Slice lo hi none p) p2) me lc st) Q := by
  obtain ⟨o, s, e, a, s', e', b, s'', e'', r, hr, q⟩ := h
  exact ⟨r, s'', by rw [run_ev, heq, e]; simp only [Option.bind_some]; rw [e']; simp only [Option.bind_some]; rw [e'']; show Option.map _ _ = _; rw [hr]; rfl, q⟩
theorem ev_sub {v i p2} (heq : evF P (run P n) (.Subscript v i p2) me lc st = if isSlice i then Option.none else ((run P n).ev v me lc st).bind fun (o, st) => ((run P n).ev i me lc st).bind fun (k, st) =>
      (getItemM o k st).map fun r => (r, st)) (hs : isSlice i = false)
    (h : W2 ((run P n).ev v me lc st) (KSub1 (run P n) me lc i Q)) :
    W2 ((run P (n + 1)).ev (.Subscript v i p2) me lc st) Q := by
  obtain ⟨o, s, e, a, s', e', r, hr, q⟩ := h
  exact ⟨r, s', by rw [run_ev, heq, hs, if_neg (by decide), e]; simp only [Option.bind_some]; rw [e']; show Option.map _ _ = _; rw [hr]; rfl, q⟩
theorem ev_attr {x p a p2} (h : W2 ((run P n).ev (.Name x p) me lc st) (KAttr P a Q)) : W2 ((run P (n + 1)).ev (.Attribute (.Name x p) a p2) me lc st) Q := by
  obtain ⟨o, s, e, v, hv, q⟩ := h
  exact ⟨v, s, by show Option.bind ((run P n).ev (.Name x p) me lc st) _ = _; rw [e]; show Option.map _ _ = _; rw [hv]; rfl, q⟩
theorem ev_cmp {l ops cs p} (hs : cs.any isSet = false) (h : W2 ((run P n).ev l me lc st) (KChain (run P n) me lc ops cs (KBool Q))) :
    W2 ((run P (n + 1)).ev (.Compare l ops cs p) me lc st) Q := by
  obtain ⟨a, s, e, b, s', e', q⟩ := h
  exact ⟨_, s', by show (if cs.any isSet then _ else Option.bind ((run P n).ev l me lc st) _) = _; rw [hs, e]; show Option.map _ _ = _; rw [e']; rfl, q⟩
theorem ev_meth {o m ap args ps} (hs : (args.any isStarred || decide (29 < args.length) || isCall o || ap.endLine != ps.line) = false)
    (h : W2 ((run P n).ev o me lc st) (KMeth P (run P n) me lc m args Q)) : W2 ((run P (n + 1)).ev (.Call (.Attribute o m ap) args [] ps) me lc st) Q := by
  obtain ⟨a, s, e, b, s', e', q⟩ := h
  exact ⟨_, s', by show (if (args.any isStarred || decide (29 < args.length) || isCall o || ap.endLine != ps.line) then _ else Option.bind ((run P n).ev o me lc st) _) = _; rw [hs, e]; exact e', q⟩
theorem ev_call {f p args ps} (hs : (args.any isStarred || decide (29 < args.length)) = false)
    (h : W2 ((run P n).ev (.Name f p) me lc st) (KCall1 P (run P n) me lc args Q)) :
    W2 ((run P (n + 1)).ev (.Call (.Name f p) args [] ps) me lc st) Q := by
  obtain ⟨a, s, e, hc, vs, s', e', v, s'', e'', q⟩ := h
  exact ⟨_, s'', by
    show (if (false || (args.any isStarred || decide (29 < args.length))) then _ else Option.bind ((run P n).ev (.Name f p) me lc st) _) = _
    rw [hs, e]; show (if (!callable P a) then _ else Option.bind (evs (run P n) args me lc s) _) = _; rw [hc, e']; exact e'', q⟩
theorem ev_comp {elt t it ifs scope p} (hs : (innerOk me scope && !isSet it) = true)
    (h : W2 ((run P n).ev it me lc st) (KComp (run P n) me lc elt t ifs scope Q)) :
    W2 ((run P (n + 1)).ev (.ListComp elt [⟨t, it, ifs, 0⟩] scope p) me lc st) Q := by
  obtain ⟨a, s, e, i, hi, vs, s', e', q⟩ := h
  exact ⟨_, s', by
    show (if (innerOk me scope && !isSet it) then Option.bind ((run P n).ev it me lc st) _ else _) = _
    rw [hs, e]; show Option.bind (itOf a s) _ = _; rw [hi]; show Option.map _ _ = _; rw [e']; rfl, q⟩

theorem evs_nil {Q : List MV → St → Prop} (q : Q [] st) : W2 (evs R [] me lc st) Q := ⟨_, _, rfl, q⟩
theorem evs_cons {e r} {Q : List MV → St → Prop} (h : W2 (R.ev e me lc st) (KEvs R me lc r Q)) : W2 (evs R (e :: r) me lc st) Q := by
  obtain ⟨v, s, e1, vs, s', e2, q⟩ := h
  exact ⟨_, s', by rw [evs_step, e1, Option.bind_some, e2]; rfl, q⟩
theorem evOpt_none {Q : Option Int → St → Prop} (q : Q none st) : W2 (evOpt R none me lc st) Q := ⟨_, _, rfl, q⟩
theorem evOpt_some {e} {Q : Option Int → St → Prop} (h : W2 (R.ev e me lc st) (KOpt Q)) : W2 (evOpt R (some e) me lc st) Q := by
  obtain ⟨v, s, e1, i, rfl, q⟩ := h
  exact ⟨_, s, by show Option.bind (R.ev e me lc st) _ = _; rw [e1]; rfl, q⟩
theorem dictOf_nil {Q : List (Str × MV) → St → Prop} (q : Q [] st) : W2 (dictOf? R [] [] me lc st) Q := ⟨_, _, rfl, q⟩
theorem dictOf_cons {k a b ks v vs} {Q : List (Str × MV) → St → Prop} (h : W2 (R.ev v me lc st) (KD1 R me lc k ks vs Q)) :
    W2 (dictOf? R (some (.Constant (.str k) a b) :: ks) (v :: vs) me lc st) Q := by
  obtain ⟨v, s, e1, r, s', e2, hk, q⟩ := h
  exact ⟨_, s', by rw [dict_step]; show Option.bind (R.ev _ me lc st) _ = _; rw [e1]; show Option.bind (dictOf? R ks vs me lc s) _ = _; rw [e2]; show (if _ then _ else _) = _; rw [hk]; rfl, q⟩
theorem chain_one {a op e} {Q : Bool → St → Prop} (h : W2 (R.ev e me lc st) (KCmp op a Q)) : W2 (chain R a [op] [e] me lc st) Q := by
  obtain ⟨v, s, e1, r, hr, q⟩ := h
  exact ⟨r, s, by rw [chain_step, e1, Option.bind_some, hr]; rfl, q⟩
theorem chain_cons {a op op2 ops e e2 es} {Q : Bool → St → Prop} (h : W2 (R.ev e me lc st) (KCmps R me lc op (op2 :: ops) (e2 :: es) a Q)) :
    W2 (chain R a (op :: op2 :: ops) (e :: e2 :: es) me lc st) Q := by
  obtain ⟨v, s, e1, r, hr, h1, h2⟩ := h
  cases r
  · exact ⟨false, s, by rw [chain_step, e1, Option.bind_some, hr]; rfl, h2 rfl⟩
  · obtain ⟨b, s', e', q⟩ := h1 rfl
    exact ⟨b, s', by rw [chain_step, e1, Option.bind_some, hr]; exact e', q⟩
theorem boolM_and0 {Q : Bool → St → Prop} (q : Q true st) : W2 (boolM R .And [] me lc st) Q := ⟨_, _, rfl, q⟩
theorem boolM_or0 {Q : Bool → St → Prop} (q : Q false st) : W2 (boolM R .Or [] me lc st) Q := ⟨_, _, rfl, q⟩
theorem boolM_and {e r} {Q : Bool → St → Prop} (h : W2 (R.tr e me lc st) (KAndM R me lc r Q)) : W2 (boolM R .And (e :: r) me lc st) Q := by
  obtain ⟨b, s, e', q, q'⟩ := h
  cases b
  · exact ⟨false, s, by show Option.bind (R.tr e me lc st) _ = _; rw [e']; rfl, q' rfl⟩
  · obtain ⟨b, s', e2', q⟩ := q rfl
    exact ⟨b, s', by show Option.bind (R.tr e me lc st) _ = _; rw [e']; exact e2', q⟩
theorem boolM_or {e r} {Q : Bool → St → Prop} (h : W2 (R.tr e me lc st) (KOrM R me lc r Q)) : W2 (boolM R .Or (e :: r) me lc st) Q := by
  obtain ⟨b, s, e', q, q'⟩ := h
  cases b
  · obtain ⟨b, s', e2', q⟩ := q rfl
    exact ⟨b, s', by show Option.bind (R.tr e me lc st) _ = _; rw [e']; exact e2', q⟩
  · exact ⟨true, s, by show Option.bind (R.tr e me lc st) _ = _; rw [e']; rfl, q' rfl⟩

/-! truth -/
theorem tr_not {x p} {Q : Bool → St → Prop} (h : W2 ((run P n).tr x me lc st) (KNotB Q)) : W2 ((run P (n + 1)).tr (.UnaryOp .Not x p) me lc st) Q := by
  obtain ⟨v, s, e, q⟩ := h
  exact ⟨_, s, by show Option.map _ ((run P n).tr x me lc st) = _; rw [e]; rfl, q⟩
theorem tr_bool {op vs p} {Q : Bool → St → Prop} (h : W2 (boolM (run P n) op vs me lc st) Q) : W2 ((run P (n + 1)).tr (.BoolOp op vs p) me lc st) Q := h
theorem tr_cmp {l ops cs p} {Q : Bool → St → Prop} (hs : cs.any isSet = false) (h : W2 ((run P n).ev l me lc st) (KChain (run P n) me lc ops cs Q)) :
    W2 ((run P (n + 1)).tr (.Compare l ops cs p) me lc st) Q := by
  obtain ⟨a, s, e, b, s', e', q⟩ := h
  exact ⟨_, s', by show (if cs.any isSet then _ else Option.bind ((run P n).ev l me lc st) _) = _; rw [hs, e]; exact e', q⟩
theorem tr_val {e} {Q : Bool → St → Prop} (heq : trF (run P n) e me lc st = ((run P n).ev e me lc st).bind fun (v, st) => (asBoolM v).bind fun b => some (b, st)) (h : W2 ((run P n).ev e me lc st) (KIsB Q)) : W2 ((run P (n + 1)).tr e me lc st) Q := by
  obtain ⟨v, s, e1, b, rfl, q⟩ := h
  exact ⟨b, s, by rw [run_tr, heq, e1]; rfl, q⟩

/-! statements -/
theorem xs_nil (q : X .next lc st) : W3 (exs R [] me lc st) X := ⟨_, _, _, rfl, q⟩
theorem xs_ex {s r} (h : W3 (R.ex s me lc st) (thenX (KExs R me r X) X)) : W3 (exs R (s :: r) me lc st) X := by
  obtain ⟨f, l, s', e, h⟩ := h
  induction f using MF.casesOn with
  | next =>
    obtain ⟨f, l', s'', e', h⟩ := h
    exact ⟨f, l', s'', by rw [exs_step, e]; exact e', h⟩
  | brk => exact ⟨_, _, _, by rw [exs_step, e]; rfl, h⟩
  | cont => exact ⟨_, _, _, by rw [exs_step, e]; rfl, h⟩
  | ret v => exact ⟨_, _, _, by rw [exs_step, e]; rfl, h⟩
theorem ex_return {e p} (h : W2 ((run P n).ev e me lc st) (KRet lc X)) : W3 ((run P (n + 1)).ex (.Return (some e) p) me lc st) X := by
  obtain ⟨v, s, e, q⟩ := h
  exact ⟨_, _, s, by show Option.map _ ((run P n).ev _ me lc st) = _; rw [e]; rfl, q⟩
theorem ex_expr {e p} (hs : isAnyComp e = false) (h : W2 ((run P n).ev e me lc st) (KNext lc X)) : W3 ((run P (n + 1)).ex (.Expr e p) me lc st) X := by
  obtain ⟨v, s, e, q⟩ := h
  exact ⟨_, _, s, by show (if isAnyComp _ then _ else Option.map _ ((run P n).ev _ me lc st)) = _; rw [hs, e]; rfl, q⟩
theorem ex_assign {t e p} (hs : swapBad t e = false) (h : W2 ((run P n).ev e me lc st) (KAsg P (run P n) me lc t X)) :
    W3 ((run P (n + 1)).ex (.Assign [t] e p) me lc st) X := by
  obtain ⟨v, s, e, l', s', e', q⟩ := h
  exact ⟨_, _, s', by show (if swapBad t _ then _ else Option.bind ((run P n).ev _ me lc st) _) = _; rw [hs, e]; show Option.map _ _ = _; rw [e']; rfl, q⟩
theorem ex_if {t b o p} (h : W2 ((run P n).tr t me lc st) (KIfX (run P n) me lc b o X)) :
    W3 ((run P (n + 1)).ex (.If t b o p) me lc st) X := by
  obtain ⟨c, s, e, h1, h2⟩ := h
  cases c
  · obtain ⟨v, l', s', e', q⟩ := h2 rfl
    exact ⟨v, l', s', by show Option.bind ((run P n).tr t me lc st) _ = _; rw [e]; exact e', q⟩
  · obtain ⟨v, l', s', e', q⟩ := h1 rfl
    exact ⟨v, l', s', by show Option.bind ((run P n).tr t me lc st) _ = _; rw [e]; exact e', q⟩
theorem ex_for {t it b p} (hs : isSet it = false) (h : W2 (iterOf P (run P n) it me lc st) (KFor (run P n) me lc t b X)) : W3 ((run P (n + 1)).ex (.For t it b [] p) me lc st) X := by
  obtain ⟨c, s, e, v, l', s', e', q⟩ := h
  exact ⟨v, l', s', by show (if isSet it then _ else Option.bind (iterOf P (run P n) it me lc st) _) = _; rw [hs, e]; exact e', q⟩
theorem ex_while {t b p} (h : W3 ((run P n).whil t b me lc st) X) : W3 ((run P (n + 1)).ex (.While t b [] p) me lc st) X := h
theorem iter_val {e} {Q : It → St → Prop} (heq : iterOf P (run P n) e me lc st = iterV (run P n) e me lc st)
    (h : W2 ((run P n).ev e me lc st) (KIter Q)) : W2 (iterOf P (run P n) e me lc st) Q := by
  obtain ⟨v, s, e1, i, hi, q⟩ := h
  exact ⟨i, s, by rw [heq]; show Option.bind ((run P n).ev e me lc st) _ = _; rw [e1]; show Option.map _ _ = _; rw [hi]; rfl, q⟩
theorem iter_enum {x p a p2} {Q : It → St → Prop} (hg : getName P me lc x = some (.bi .enumerate)) (hs : isStarred a = false)
    (h : W2 (R.ev a me lc st) (KEnum Q)) : W2 (iterOf P R (.Call (.Name x p) [a] [] p2) me lc st) Q := by
  obtain ⟨v, s, e1, i, hi, hr, q⟩ := h
  exact ⟨_, s, by
    show Option.bind (getName P me lc x) _ = _
    rw [hg]
    show (if isStarred a then _ else Option.bind (R.ev a me lc st) _) = _
    rw [hs, e1]
    show Option.bind (itOf v s) _ = _
    rw [hi]
    show (if isRng i then _ else _) = _
    rw [hr]; rfl, q⟩

/-! loops -/
theorem loop_end {t it b} (hs : (isEnm it && !isTupE t) = false) (h : nextM it st = some none) (q : X .next lc st) : W3 ((run P (n + 1)).loop t it b me lc st) X :=
  ⟨_, _, _, by show loopF P (run P n) t it b me lc st = _; rw [loopF, hs, if_neg (by decide), h]; rfl, q⟩
theorem loop_turn {t it b v it'} (hs : (isEnm it && !isTupE t) = false) (h : nextM it st = some (some (v, it')))
    (q : W2 (assignF P (run P n) t v me lc st) fun lc st => W3 (exs (run P n) b me lc st) (turnX (fun lc st => W3 ((run P n).loop t it' b me lc st) X) X)) :
    W3 ((run P (n + 1)).loop t it b me lc st) X := by
  obtain ⟨l, s, e, f, l', s', e', q⟩ := q
  have key : ∀ r, ((exs (run P n) b me l s).bind fun (f, lc, st) => match f with
      | .ret v => some (.ret v, lc, st)
      | .brk => some (.next, lc, st)
      | _ => (run P n).loop t it' b me lc st) = r → (run P (n + 1)).loop t it b me lc st = r := by
    intro r hr
    show loopF P (run P n) t it b me lc st = _
    rw [loopF, hs, if_neg (by decide), h]; simp only [Option.bind_some]; rw [e]; exact hr
  rw [e'] at key
  induction f using MF.casesOn with
  | next =>
    obtain ⟨f, l', s'', e', h⟩ := q
    exact ⟨f, l', s'', key _ e', h⟩
  | brk => exact ⟨_, _, _, key _ rfl, q⟩
  | cont =>
    obtain ⟨f, l', s'', e', h⟩ := q
    exact ⟨f, l', s'', key _ e', h⟩
  | ret v => exact ⟨_, _, _, key _ rfl, q⟩
theorem whil_turn {t b} (q : W2 ((run P n).tr t me lc st) fun c st => (c = true → W3 (exs (run P n) b me lc st) (turnX (fun lc st => W3 ((run P n).whil t b me lc st) X) X)) ∧ (c = false → X .next lc st)) :
    W3 ((run P (n + 1)).whil t b me lc st) X := by
  obtain ⟨c, s, e, h1, h2⟩ := q
  cases c
  · exact ⟨_, _, s, by show whilF (run P n) t b me lc st = _; rw [whilF, e]; rfl, h2 rfl⟩
  · obtain ⟨f, l', s', e', q⟩ := h1 rfl
    have key : ∀ r, ((exs (run P n) b me lc s).bind fun (f, lc, st) => match f with
        | .ret v => some (.ret v, lc, st)
        | .brk => some (.next, lc, st)
        | _ => (run P n).whil t b me lc st) = r → (run P (n + 1)).whil t b me lc st = r := by
      intro r hr
      show whilF (run P n) t b me lc st = _
      rw [whilF, e]; exact hr
    rw [e'] at key
    induction f using MF.casesOn with
    | next =>
      obtain ⟨f, l', s'', e', h⟩ := q
      exact ⟨f, l', s'', key _ e', h⟩
    | brk => exact ⟨_, _, _, key _ rfl, q⟩
    | cont =>
      obtain ⟨f, l', s'', e', h⟩ := q
      exact ⟨f, l', s'', key _ e', h⟩
    | ret v => exact ⟨_, _, _, key _ rfl, q⟩
theorem tests_nil {Q : Bool → St → Prop} (q : Q true st) : W2 (tests R [] me lc st) Q := ⟨_, _, rfl, q⟩
theorem tests_cons {e r} {Q : Bool → St → Prop} (h : W2 (R.tr e me lc st) (KTests R me lc r Q)) : W2 (tests R (e :: r) me lc st) Q := by
  obtain ⟨b, s, e', q, q'⟩ := h
  cases b
  · exact ⟨false, s, by rw [tests_step, e']; rfl, q' rfl⟩
  · obtain ⟨b, s', e2', q⟩ := q rfl
    exact ⟨b, s', by rw [tests_step, e']; exact e2', q⟩
theorem comp_end {elt t ifs it acc} {Q : List MV → St → Prop} (hs : isEnm it = false) (h : nextM it st = some none) (q : Q acc st) : W2 ((run P (n + 1)).comp elt t ifs it acc me lc st) Q :=
  ⟨_, _, by show compF P (run P n) elt t ifs it acc me lc st = _; rw [compF, hs, if_neg (by decide), h]; rfl, q⟩
theorem comp_turn {elt t ifs it acc v it'} {Q : List MV → St → Prop} (hs : isEnm it = false) (h : nextM it st = some (some (v, it'))) (ha : acc.length ≤ 1048576)
    (q : W2 (assignF P (run P n) t v me lc st) fun lc st => W2 (tests (run P n) ifs me lc st) fun ok st =>
      (ok = true → W2 ((run P n).ev elt me lc st) fun v st => W2 ((run P n).comp elt t ifs it' (acc ++ [v]) me lc st) Q) ∧ (ok = false → W2 ((run P n).comp elt t ifs it' acc me lc st) Q)) :
    W2 ((run P (n + 1)).comp elt t ifs it acc me lc st) Q := by
  obtain ⟨l, s, e, ok, s1, e1, h1, h2⟩ := q
  have key : ∀ r, (if ok then (if acc.length ≤ 1048576 then ((run P n).ev elt me l s1).bind fun (v, st) => (run P n).comp elt t ifs it' (acc ++ [v]) me l st else Option.none)
      else (run P n).comp elt t ifs it' acc me l s1) = r → (run P (n + 1)).comp elt t ifs it acc me lc st = r := by
    intro r hr
    show compF P (run P n) elt t ifs it acc me lc st = _
    rw [compF, hs, if_neg (by decide), h]; simp only [Option.bind_some]; rw [e]; simp only [Option.bind_some]; rw [e1]; exact hr
  cases ok
  · obtain ⟨v, s2, e2, q⟩ := h2 rfl
    exact ⟨v, s2, key _ e2, q⟩
  · obtain ⟨v, s2, e2, w, s3, e3, q⟩ := h1 rfl
    exact ⟨w, s3, key _ (by rw [if_pos rfl, if_pos ha, e2]; exact e3), q⟩

/-! stores -/
theorem asg_name {x p v} {Q : Lc → St → Prop} {lc'} (h : setName me lc x v = some lc') (q : Q lc' st) : W2 (assignF P R (.Name x p) v me lc st) Q :=
  ⟨lc', st, by show Option.map _ (setName me lc x v) = _; rw [h]; rfl, q⟩
theorem asg_tuple {ts c p vs} {Q : Lc → St → Prop} {lc'} (h : assignNames me ts vs lc = some lc') (q : Q lc' st) : W2 (assignF P R (.Tuple ts c p) (.tup vs) me lc st) Q :=
  ⟨lc', st, by show Option.map _ (assignNames me ts vs lc) = _; rw [h]; rfl, q⟩
theorem asn_nil {lc'} (h : lc = lc') : assignNames me [] [] lc = some lc' := by rw [← h]; rfl
theorem asn_cons {x p ts v vs} {lc1 lc'} (h : setName me lc x v = some lc1) (h' : assignNames me ts vs lc1 = some lc') : assignNames me (.Name x p :: ts) (v :: vs) lc = some lc' := by
  show Option.bind (setName me lc x v) _ = _
  rw [h]; exact h'
theorem asg_sub {o i p v} {Q : Lc → St → Prop} (hs : isSlice i = false) (h : W2 (R.ev o me lc st) (KAsgS1 R me lc i v Q)) :
    W2 (assignF P R (.Subscript o i p) v me lc st) Q := by
  obtain ⟨ov, s, e, iv, s', e', s'', h, q⟩ := h
  exact ⟨lc, s'', by
    show (if isSlice i then _ else Option.bind (R.ev o me lc st) _) = _
    rw [hs, e]; show Option.bind (R.ev i me lc s) _ = _; rw [e']; show Option.map _ _ = _; rw [h]; rfl, q⟩
theorem asg_attr {x p a p2 v} {Q : Lc → St → Prop} (h : W2 (R.ev (.Name x p) me lc st) (KAsgA P lc a v Q)) :
    W2 (assignF P R (.Attribute (.Name x p) a p2) v me lc st) Q := by
  obtain ⟨ov, s, e, s'', h, q⟩ := h
  exact ⟨lc, s'', by show Option.bind (R.ev (.Name x p) me lc st) _ = _; rw [e]; show Option.map _ _ = _; rw [h]; rfl, q⟩

/-! calls -/
theorem call_fn {a args d} (hd : P.defs a = some d) (hl : d.params.args.length = args.length)
    (h : W3 (exs (run P n) d.body ⟨d.scope, if d.lam then bind0 (fun x => d.scope.names.lookup x == some .cell) ((d.params.args.map (·.arg)).zip args) Lc.nil else Lc.nil, fun x => !d.lam && d.scope.names.lookup x == some .cell, d.lam⟩
      (bind0 (fun x => d.scope.names.lookup x == some .local || (!d.lam && d.scope.names.lookup x == some .cell)) ((d.params.args.map (·.arg)).zip args) Lc.nil) st) (retX Q)) :
    W2 ((run P (n + 1)).call (.fn a) args st) Q := by
  obtain ⟨f, l, s, e, q⟩ := h
  have key : ∀ r, (some (f, l, s)).map (fun (r, _, st) => (retV r, st)) = r → (run P (n + 1)).call (.fn a) args st = r := by
    intro r hr
    show callF P (run P n) (.fn a) args st = r
    show Option.bind (P.defs a) _ = _; rw [hd]; show (if _ then _ else _) = _; rw [if_pos hl]; show Option.map _ _ = _; rw [e]; exact hr
  induction f using MF.casesOn with
  | ret v => exact ⟨v, s, key _ rfl, q⟩
  | next => exact ⟨.none, s, key _ rfl, q⟩
  | brk => exact ⟨.none, s, key _ rfl, q⟩
  | cont => exact ⟨.none, s, key _ rfl, q⟩
theorem call_lam {ps body scope fre args} (hl : (decide (ps.args.length = args.length) && scopeOk scope && plainParams ps && scope.names.all (fun p => p.2 != .cell) && ps.args.all (fun p => scope.names.lookup p.arg == some .local)) = true)
    (h : W2 ((run P n).ev body ⟨scope, fun x => fre.lookup x, fun _ => false, false⟩ (bind0 (fun x => scope.names.lookup x == some .local) ((ps.args.map (·.arg)).zip args) Lc.nil) st) Q) :
    W2 ((run P (n + 1)).call (.lam ps body scope fre) args st) Q := by
  obtain ⟨v, s, e, q⟩ := h
  exact ⟨v, s, by show (if _ then _ else _) = _; rw [if_pos hl]; exact e, q⟩
theorem call_cls {C i args} (hi : P.init C = some i) (h : W2 ((run P n).call (.fn i) (.ins C st.length :: args) (st ++ [.inst []])) fun v st' => v = .none ∧ Q (.ins C st.length) st') :
    W2 ((run P (n + 1)).call (.cls C) args st) Q := by
  obtain ⟨v, s, e, rfl, q⟩ := h
  exact ⟨_, s, by show Option.bind (P.init C) _ = _; rw [hi]; show Option.bind ((run P n).call _ _ _) _ = _; rw [e]; rfl, q⟩
theorem call_bi {b args v st'} (h : callB b args st = some (v, st')) (q : Q v st') : W2 ((run P (n + 1)).call (.bi b) args st) Q := ⟨v, st', h, q⟩
theorem meth_fn {C l m args f fs} (hm : P.meth C m = some (some f)) (hst : st[l]? = some (.inst fs)) (hf : (fs.lookup m).isSome = false) (hc : callable P (.fn f) = true)
    (h : W2 (evs R args me lc st) (KMfn R (.fn f) (.ins C l) Q)) : W2 (callMeth P R (.ins C l) m args me lc st) Q := by
  obtain ⟨vs, s, e, v, s', e', q⟩ := h
  exact ⟨v, s', by show methIns P R C l m args me lc st = _; rw [methIns, hm]; show Option.bind (instAt st l) _ = _; rw [instAt_of hst]; show (if _ then _ else Option.bind (evs R args me lc st) _) = _; rw [hf, hc, e]; exact e', q⟩
theorem meth_attr {C l m args f} (hm : P.meth C m = some none) (ha : attrM P (.ins C l) m st = some f) (hc : callable P f = true)
    (h : W2 (evs R args me lc st) (KCall2 R f Q)) : W2 (callMeth P R (.ins C l) m args me lc st) Q := by
  obtain ⟨vs, s, e, v, s', e', q⟩ := h
  exact ⟨v, s', by show methIns P R C l m args me lc st = _; rw [methIns, hm]; show Option.bind (attrM P (.ins C l) m st) _ = _; rw [ha]; show (if _ then _ else Option.bind (evs R args me lc st) _) = _; rw [hc, e]; exact e', q⟩
theorem meth_append {l args xs0} (hst : st[l]? = some (.list xs0))
    (h : W2 (evs R args me lc st) (KApp l Q)) : W2 (callMeth P R (.loc l) "append" args me lc st) Q := by
  obtain ⟨vs, s, e, v, xs, rfl, hs, hx, q⟩ := h
  exact ⟨_, _, by show methLoc R l _ args me lc st = _; rw [methLoc, listAt_of hst]; show Option.bind (evs R args me lc st) _ = _; rw [e]; show Option.bind (listAt s l) _ = _; rw [listAt_of hs]; exact if_pos hx, q⟩
theorem meth_index {b args} (h : W2 (evs R args me lc st) fun vs st => ∃ (i : Int) (k : Nat), vs = [.int i] ∧ 0 ≤ i ∧ i < 256 ∧ b.findIdx? (· == UInt8.ofNat i.toNat) = some k ∧ Q (.int k) st) :
    W2 (callMeth P R (.bytes b) "index" args me lc st) Q := by
  obtain ⟨vs, s, e, i, k, rfl, h0, h1, hk, q⟩ := h
  exact ⟨_, _, by show Option.bind (evs R args me lc st) _ = _; rw [e]; show (if _ then Option.map _ _ else _) = _; rw [if_pos ⟨h0, h1⟩, hk]; rfl, q⟩
theorem meth_split {s args} (h : W2 (evs R args me lc st) fun vs st => ∃ sep l, vs = [.str sep] ∧ splitKinds s sep = some l ∧ Q (.lst (l.map .str)) st) : W2 (callMeth P R (.str s) "split" args me lc st) Q := by
  obtain ⟨vs, s', e, i, k, rfl, hk, q⟩ := h
  exact ⟨_, _, by show Option.bind (evs R args me lc st) _ = _; rw [e]; show Option.map _ (splitKinds s i) = _; rw [hk]; rfl, q⟩
end
noncomputable def dat (a : Nat) : MDef := (defsL.lookup a).getD ⟨{ posonlyargs := [], args := [], vararg := none, kwonlyargs := [], kw_defaults := [], kwarg := none, defaults := [] }, [], { kind := .function, names := [], isGenerator := false, isCoroutine := false }, false⟩
noncomputable def meOf (a : Nat) : ME := ⟨(dat a).scope, Lc.nil, fun x => (dat a).scope.names.lookup x == some .cell, false⟩
theorem defs_dat {a : Nat} (h : (defsL.lookup a).isSome = true) : lawP.defs a = some (dat a) := by
  show defsL.lookup a = some ((defsL.lookup a).getD _)
  cases h' : defsL.lookup a with
  | none => rw [h'] at h; simp at h
  | some d => rfl
theorem call_def {a : Nat} {args : List MV} {n : Nat} {st : St} {Q : MV → St → Prop} {lc0 : Lc} (hd : (defsL.lookup a).isSome = true) (hm : (dat a).lam = false) (hl : (dat a).params.args.length = args.length)
    (hb : bind0 (fun x => (dat a).scope.names.lookup x == some .local || (!false && (dat a).scope.names.lookup x == some .cell)) (((dat a).params.args.map (·.arg)).zip args) Lc.nil = lc0)
    {s : Stmt} {r : List Stmt} (hbd : (dat a).body = s :: r) (h : W3 (exs (run lawP n) (s :: r) (meOf a) lc0 st) (retX Q)) : W2 ((run lawP (n + 1)).call (.fn a) args st) Q := by
  refine call_fn (defs_dat hd) hl ?_
  rw [hm, hb, hbd]
  exact h
theorem get_local {P : MP} {me : ME} {lc : Lc} {x : Str} {v : MV} (hk : me.kind x = some .local) (hv : lc x = some v) : getName P me lc x = some v := by
  unfold getName; rw [hk]; exact hv
theorem get_cell {P : MP} {me : ME} {lc : Lc} {x : Str} {v : MV} (hk : me.kind x = some .cell) (ho : me.own x = true) (hv : lc x = some v) : getName P me lc x = some v := by
  unfold getName; rw [hk]; show (if _ then _ else _) = _; rw [ho]; exact hv
theorem get_cell' {P : MP} {me : ME} {lc : Lc} {x : Str} {v : MV} (hk : me.kind x = some .cell) (ho : me.own x = false) (hv : me.fre x = some v) : getName P me lc x = some v := by
  unfold getName; rw [hk]; show (if _ then _ else _) = _; rw [ho]; exact hv
theorem get_free {P : MP} {me : ME} {lc : Lc} {x : Str} {v : MV} (hk : me.kind x = some .free) (hv : me.fre x = some v) : getName P me lc x = some v := by
  unfold getName; rw [hk]; exact hv
theorem get_glob {P : MP} {me : ME} {lc : Lc} {x : Str} {v : MV} (hk : me.kind x = some .globalImplicit) (hv : P.glob x = some v) : getName P me lc x = some v := by
  unfold getName; rw [hk]; exact hv
theorem capture_own {me : ME} {lc : Lc} {scope : Scope} {x : Str} {v : MV} (hf : scope.names.lookup x = some .free) (hk : me.kind x = some .cell) (ho : me.own x = true) (hv : lc x = some v) : capture me lc scope x = some v := by
  unfold capture; rw [if_pos hf, hk]; show (if _ then _ else _) = _; rw [ho]; exact hv
theorem capture_cell {me : ME} {lc : Lc} {scope : Scope} {x : Str} {v : MV} (hf : scope.names.lookup x = some .free) (hk : me.kind x = some .cell) (ho : me.own x = false) (hv : me.fre x = some v) : capture me lc scope x = some v := by
  unfold capture; rw [if_pos hf, hk]; show (if _ then _ else _) = _; rw [ho]; exact hv
theorem capture_free {me : ME} {lc : Lc} {scope : Scope} {x : Str} {v : MV} (hf : scope.names.lookup x = some .free) (hk : me.kind x = some .free) (hv : me.fre x = some v) : capture me lc scope x = some v := by
  unfold capture; rw [if_pos hf, hk]; exact hv
theorem set_local {me : ME} {lc : Lc} {x : Str} {v : MV} (hk : me.kind x = some .local) : setName me lc x v = some (lc.set x v) := if_pos (.inl hk)
theorem set_cell {me : ME} {lc : Lc} {x : Str} {v : MV} (hk : me.kind x = some .cell) (ho : me.own x = true) : setName me lc x v = some (lc.set x v) := if_pos (.inr ⟨hk, ho⟩)
theorem Lc.here {lc : Lc} {x : Str} {v : MV} : (lc.set x v) x = some v := if_pos rfl
theorem Lc.there {lc : Lc} {x y : Str} {v w : MV} (h : decide (x = y) = false) (h' : lc x = some w) : (lc.set y v) x = some w := by
  show (if _ then _ else _) = _
  rw [if_neg (of_decide_eq_false h)]; exact h'
theorem it_loc {l : Nat} {xs : List MV} {st : St} {Q : It → Prop} (h : st[l]? = some (.list xs)) (q : Q (.loc l 0)) : ∃ i, itOf (.loc l) st = some i ∧ Q i := ⟨_, by show Option.bind (listAt st l) _ = _; rw [listAt_of h]; rfl, q⟩
theorem attr_get {P : MP} {C l : Nat} {a : Str} {st : St} {fs : List (Str × MV)} {v : MV} (hm : P.meth C a = some none) (hst : st[l]? = some (.inst fs)) (hv : fs.lookup a = some v) : attrM P (.ins C l) a st = some v := by
  show (if P.meth C a = some Option.none then Option.bind (instAt st l) _ else _) = _
  rw [if_pos hm, instAt_of hst]; exact hv
theorem setAttr_put {P : MP} {C l : Nat} {a : Str} {st : St} {fs fs' : List (Str × MV)} {v : MV} (hm : P.meth C a = some none) (hst : st[l]? = some (.inst fs)) (hl : fs.length ≤ 100) (hv : dput fs a v = fs') :
    setAttrM P (.ins C l) a v st = some (st.set l (.inst fs')) := by
  show (if P.meth C a = some Option.none then Option.bind (instAt st l) _ else _) = _
  rw [if_pos hm, instAt_of hst, ← hv]; exact if_pos hl
theorem false_and' {α : Type} {o : Option α} {A : Prop} (h : o.isSome = false) (q : A) : o.isSome = false ∧ A := ⟨h, q⟩
theorem both {p q : Prop} {c : Bool} (h : c = true) (hp : p) : (c = true → p) ∧ (c = false → q) := ⟨fun _ => hp, fun h' => by rw [h] at h'; cases h'⟩
theorem neither {p q : Prop} {c : Bool} (h : c = false) (hq : q) : (c = true → p) ∧ (c = false → q) := ⟨fun h' => by (rw [h] at h'; cases h'), fun _ => hq⟩
theorem both' {p q : Prop} {c : Bool} (h : c = true) (hp : p) : (c = false → q) ∧ (c = true → p) := ⟨fun h' => by (rw [h] at h'; cases h'), fun _ => hp⟩
theorem neither' {p q : Prop} {c : Bool} (h : c = false) (hq : q) : (c = false → q) ∧ (c = true → p) := ⟨fun _ => hq, fun h' => by rw [h] at h'; cases h'⟩
/-! loops by an invariant -/
theorem turnX_imp {K K' : Lc → St → Prop} {X : MF → Lc → St → Prop} {f lc st} (h : turnX K X f lc st) (hk : ∀ lc st, K lc st → K' lc st) : turnX K' X f lc st := by
  induction f using MF.casesOn with
  | ret v => exact h
  | brk => exact h
  | next => exact hk _ _ h
  | cont => exact hk _ _ h
theorem loop_inv {P : MP} {t : Expr} {b : List Stmt} {me : ME} {X : MF → Lc → St → Prop} (B k : Nat) (its : Nat → It) (vals : Nat → MV) (Inv : Nat → Lc → St → Prop)
    (hs : ∀ i, (isEnm (its i) && !isTupE t) = false)
    (hn : ∀ i lc st, i < k → Inv i lc st → nextM (its i) st = some (some (vals i, its (i + 1))))
    (he : ∀ lc st, Inv k lc st → nextM (its k) st = some none)
    (hb : ∀ i m lc st, i < k → Inv i lc st → W2 (assignF P (run P (m + B)) t (vals i) me lc st) fun lc st => W3 (exs (run P (m + B)) b me lc st) (turnX (Inv (i + 1)) X))
    (hx : ∀ lc st, Inv k lc st → X .next lc st) :
    ∀ j i f lc st, i + j = k → B + j + 1 ≤ f → Inv i lc st → W3 ((run P f).loop t (its i) b me lc st) X := by
  intro j
  induction j with
  | zero =>
    intro i f lc st hi hf h
    obtain ⟨f, rfl⟩ : ∃ m, f = m + 1 := ⟨f - 1, by omega⟩
    cases (show i = k by omega)
    exact loop_end (hs _) (he _ _ h) (hx _ _ h)
  | succ j ih =>
    intro i f lc st hi hf h
    obtain ⟨m, rfl⟩ : ∃ m, f = m + B + 1 := ⟨f - B - 1, by omega⟩
    refine loop_turn (hs _) (hn i lc st (by omega) h) ?_
    refine (hb i m lc st (by omega) h).imp fun lc st h => h.imp fun f lc st h => turnX_imp h fun lc st h => ?_
    exact ih (i + 1) _ lc st (by omega) (by omega) h
theorem comp_inv {P : MP} {elt t : Expr} {ifs : List Expr} {me : ME} {Q : List MV → St → Prop} (B k : Nat) (its : Nat → It) (vals : Nat → MV) (Inv : Nat → List MV → Lc → St → Prop)
    (hs : ∀ i, isEnm (its i) = false)
    (hn : ∀ i acc lc st, i < k → Inv i acc lc st → nextM (its i) st = some (some (vals i, its (i + 1))))
    (he : ∀ acc lc st, Inv k acc lc st → nextM (its k) st = some none)
    (hb : ∀ i m acc lc st, i < k → Inv i acc lc st → acc.length ≤ 1048576 ∧ W2 (assignF P (run P (m + B)) t (vals i) me lc st) fun lc st => W2 (tests (run P (m + B)) ifs me lc st) fun ok st =>
      (ok = true → W2 ((run P (m + B)).ev elt me lc st) fun v st => Inv (i + 1) (acc ++ [v]) lc st) ∧ (ok = false → Inv (i + 1) acc lc st))
    (hx : ∀ acc lc st, Inv k acc lc st → Q acc st) :
    ∀ j i f acc lc st, i + j = k → B + j + 1 ≤ f → Inv i acc lc st → W2 ((run P f).comp elt t ifs (its i) acc me lc st) Q := by
  intro j
  induction j with
  | zero =>
    intro i f acc lc st hi hf h
    obtain ⟨f, rfl⟩ : ∃ m, f = m + 1 := ⟨f - 1, by omega⟩
    cases (show i = k by omega)
    exact comp_end (hs _) (he _ _ _ h) (hx _ _ _ h)
  | succ j ih =>
    intro i f acc lc st hi hf h
    obtain ⟨m, rfl⟩ : ∃ m, f = m + B + 1 := ⟨f - B - 1, by omega⟩
    obtain ⟨ha, hb⟩ := hb i m acc lc st (by omega) h
    refine comp_turn (hs _) (hn i acc lc st (by omega) h) ha ?_
    refine hb.imp fun lc st h => h.imp fun ok st h => ⟨fun o => ?_, fun o => ?_⟩
    · exact (h.1 o).imp fun v st h => ih (i + 1) _ _ lc st (by omega) (by omega) h
    · exact ih (i + 1) _ _ lc st (by omega) (by omega) (h.2 o)
theorem whil_inv {P : MP} {t : Expr} {b : List Stmt} {me : ME} {X : MF → Lc → St → Prop} (B k : Nat) (Inv : Nat → Lc → St → Prop)
    (hb : ∀ i m lc st, i < k → Inv i lc st → W2 ((run P (m + B)).tr t me lc st) fun c st => c = true ∧ W3 (exs (run P (m + B)) b me lc st) (turnX (Inv (i + 1)) X))
    (hx : ∀ m lc st, Inv k lc st → W2 ((run P (m + B)).tr t me lc st) fun c st => c = false ∧ X .next lc st) :
    ∀ j i f lc st, i + j = k → B + j + 1 ≤ f → Inv i lc st → W3 ((run P f).whil t b me lc st) X := by
  intro j
  induction j with
  | zero =>
    intro i f lc st hi hf h
    obtain ⟨m, rfl⟩ : ∃ m, f = m + B + 1 := ⟨f - B - 1, by omega⟩
    cases (show i = k by omega)
    refine whil_turn ((hx m lc st h).imp fun c st h => ?_)
    exact ⟨fun h' => by (rw [h.1] at h'; cases h'), fun _ => h.2⟩
  | succ j ih =>
    intro i f lc st hi hf h
    obtain ⟨m, rfl⟩ : ∃ m, f = m + B + 1 := ⟨f - B - 1, by omega⟩
    refine whil_turn ((hb i m lc st (by omega) h).imp fun c st h => ?_)
    refine ⟨fun _ => h.2.imp fun f lc st h => turnX_imp h fun lc st h => ?_, fun h' => by rw [h.1] at h'; cases h'⟩
    exact ih (i + 1) _ lc st (by omega) (by omega) h
theorem callable_and {P : MP} {f : MV} {A : Prop} (h : callable P f = true) (q : A) : callable P f = true ∧ A := ⟨h, q⟩
theorem iter_bi {P : MP} {n : Nat} {me : ME} {lc : Lc} {st : St} {x p a p2} {b : BI} {Q : It → St → Prop} (hg : getName P me lc x = some (.bi b)) (hb : b ≠ .enumerate)
    (h : W2 ((run P n).ev (.Call (.Name x p) [a] [] p2) me lc st) (KIter Q)) : W2 (iterOf P (run P n) (.Call (.Name x p) [a] [] p2) me lc st) Q :=
  iter_val (by show Option.bind (getName P me lc x) _ = _; rw [hg]; cases b <;> first | rfl | exact absurd rfl hb) h
theorem iter_fn {P : MP} {n : Nat} {me : ME} {lc : Lc} {st : St} {x p a p2} {f : Nat} {Q : It → St → Prop} (hg : getName P me lc x = some (.fn f))
    (h : W2 ((run P n).ev (.Call (.Name x p) [a] [] p2) me lc st) (KIter Q)) : W2 (iterOf P (run P n) (.Call (.Name x p) [a] [] p2) me lc st) Q :=
  iter_val (by show Option.bind (getName P me lc x) _ = _; rw [hg]; rfl) h
theorem bop_and {op : Operator} {a b v : MV} {st st' : St} {Q : MV → St → Prop} (h : bop op a b st = some (v, st')) (q : Q v st') : W2 (bop op a b st) Q := ⟨v, st', h, q⟩
theorem cmp_and {op : CmpOp} {a b : MV} {st : St} {r : Bool} {Q : Bool → Prop} (h : cmp op a b st = some r) (q : Q r) : ∃ r, cmp op a b st = some r ∧ Q r := ⟨r, h, q⟩
theorem attrM_and {P : MP} {C l : Nat} {a : Str} {st : St} {fs : List (Str × MV)} {v : MV} {Q : MV → Prop} (hm : P.meth C a = some none) (hst : st[l]? = some (.inst fs)) (hv : fs.lookup a = some v) (q : Q v) :
    ∃ v, attrM P (.ins C l) a st = some v ∧ Q v := ⟨v, attr_get hm hst hv, q⟩
theorem setAttrM_and {P : MP} {C l : Nat} {a : Str} {st : St} {fs fs' : List (Str × MV)} {v : MV} {Q : St → Prop} (hm : P.meth C a = some none) (hst : st[l]? = some (.inst fs)) (hl : fs.length ≤ 100) (hv : dput fs a v = fs')
    (q : Q (st.set l (.inst fs'))) : ∃ st', setAttrM P (.ins C l) a v st = some st' ∧ Q st' := ⟨_, setAttr_put hm hst hl hv, q⟩
/-! iterators -/
noncomputable def rngAt (a : Int) (k : Nat) (i : Nat) : It := .rng (a + i) 1 (k - i)
theorem rngAt_next {a : Int} {k i : Nat} {st : St} (h : i < k) : nextM (rngAt a k i) st = some (some (.int (a + i), rngAt a k (i + 1))) := by
  unfold rngAt
  obtain ⟨j, hj⟩ : ∃ j, k - i = j + 1 := ⟨k - i - 1, by omega⟩
  rw [hj, show k - (i + 1) = j by omega]
  show some (some (MV.int (a + i), It.rng (a + i + 1) 1 j)) = _
  rw [show a + (i : Int) + 1 = a + ((i + 1 : Nat) : Int) by omega]
theorem rngAt_end {a : Int} {k : Nat} {st : St} : nextM (rngAt a k k) st = some none := by
  unfold rngAt; rw [Nat.sub_self]; rfl
noncomputable def dnAt (a : Int) (k : Nat) (i : Nat) : It := .rng (a - i) (-1) (k - i)
theorem dnAt_next {a : Int} {k i : Nat} {st : St} (h : i < k) : nextM (dnAt a k i) st = some (some (.int (a - i), dnAt a k (i + 1))) := by
  unfold dnAt
  obtain ⟨j, hj⟩ : ∃ j, k - i = j + 1 := ⟨k - i - 1, by omega⟩
  rw [hj, show k - (i + 1) = j by omega]
  show some (some (MV.int (a - i), It.rng (a - i + -1) (-1) j)) = _
  rw [show a - (i : Int) + -1 = a - ((i + 1 : Nat) : Int) by omega]
theorem dnAt_end {a : Int} {k : Nat} {st : St} : nextM (dnAt a k k) st = some none := by
  unfold dnAt; rw [Nat.sub_self]; rfl
theorem lst_next {xs : List MV} {i : Nat} {st : St} {v : MV} (h : xs[i]? = some v) : nextM (.lst xs i) st = some (some (v, .lst xs (i + 1))) := by show some (Option.map _ (xs[i]?)) = _; rw [h]; rfl
theorem lst_end {xs : List MV} {i : Nat} {st : St} (h : xs.length ≤ i) : nextM (.lst xs i) st = some none := by show some (Option.map _ (xs[i]?)) = _; rw [List.getElem?_eq_none h]; rfl
theorem tup_next {xs : List MV} {i : Nat} {st : St} {v : MV} (h : xs[i]? = some v) : nextM (.tup xs i) st = some (some (v, .tup xs (i + 1))) := by show some (Option.map _ (xs[i]?)) = _; rw [h]; rfl
theorem tup_end {xs : List MV} {i : Nat} {st : St} (h : xs.length ≤ i) : nextM (.tup xs i) st = some none := by show some (Option.map _ (xs[i]?)) = _; rw [List.getElem?_eq_none h]; rfl
theorem byt_next {xs : List UInt8} {i : Nat} {st : St} {v : UInt8} (h : xs[i]? = some v) : nextM (.byt xs i) st = some (some (.int v.toNat, .byt xs (i + 1))) := by show some (Option.map _ (xs[i]?)) = _; rw [h]; rfl
theorem byt_end {xs : List UInt8} {i : Nat} {st : St} (h : xs.length ≤ i) : nextM (.byt xs i) st = some none := by show some (Option.map _ (xs[i]?)) = _; rw [List.getElem?_eq_none h]; rfl
theorem loc_next {xs : List MV} {i l : Nat} {st : St} {v : MV} (hl : st[l]? = some (.list xs)) (h : xs[i]? = some v) : nextM (.loc l i) st = some (some (v, .loc l (i + 1))) := by
  show Option.bind (listAt st l) _ = _; rw [listAt_of hl]; show some (Option.map _ (xs[i]?)) = _; rw [h]; rfl
theorem loc_end {xs : List MV} {i l : Nat} {st : St} (hl : st[l]? = some (.list xs)) (h : xs.length ≤ i) : nextM (.loc l i) st = some none := by
  show Option.bind (listAt st l) _ = _; rw [listAt_of hl]; show some (Option.map _ (xs[i]?)) = _; rw [List.getElem?_eq_none h]; rfl
theorem enm_next {it it' : It} {k : Nat} {st : St} {v : MV} (h : nextM it st = some (some (v, it'))) : nextM (.enm k it) st = some (some (.tup [.int k, v], .enm (k + 1) it')) := by
  show Option.map _ (nextM it st) = _; rw [h]; rfl
theorem enm_end {it : It} {k : Nat} {st : St} (h : nextM it st = some none) : nextM (.enm k it) st = some none := by
  show Option.map _ (nextM it st) = _; rw [h]; rfl

/-! the store -/
noncomputable def Frame (S : Nat → Prop) (st st' : St) : Prop := st.length ≤ st'.length ∧ ∀ l < st.length, ¬ S l → st'[l]? = st[l]?
theorem Frame.rfl {S : Nat → Prop} {st : St} : Frame S st st := ⟨Nat.le_refl _, fun _ _ _ => Eq.refl _⟩
theorem Frame.trans {S : Nat → Prop} {a b c : St} (h : Frame S a b) (h' : Frame S b c) : Frame S a c :=
  ⟨Nat.le_trans h.1 h'.1, fun l hl hs => (h'.2 l (Nat.lt_of_lt_of_le hl h.1) hs).trans (h.2 l hl hs)⟩
theorem Frame.mono {S S' : Nat → Prop} {a b : St} (h : Frame S a b) (hs : ∀ l < a.length, S l → S' l) : Frame S' a b := ⟨h.1, fun l hl n => h.2 l hl fun s => n (hs l hl s)⟩
theorem Frame.add {S : Nat → Prop} {st t : St} : Frame S st (st ++ t) := ⟨by simp, fun l hl _ => by rw [List.getElem?_append_left hl]⟩
theorem Frame.put {S : Nat → Prop} {st : St} {l : Nat} {o : MO} (h : S l) : Frame S st (st.set l o) := ⟨by simp, fun k _ hs => by rw [List.getElem?_set_ne (fun e => hs (by rw [← e]; exact h))]⟩
theorem Frame.get {S : Nat → Prop} {st st' : St} (h : Frame S st st') {l : Nat} {o : MO} (hl : st[l]? = some o) (hs : ¬ S l) : st'[l]? = some o := by
  rw [h.2 l (List.getElem?_eq_some_iff.mp hl).1 hs]; exact hl
theorem set_same {st : St} {l : Nat} {o : MO} (h : st[l]? = some o) : st.set l o = st := by
  obtain ⟨hl, e⟩ := List.getElem?_eq_some_iff.mp h
  rw [← e]; exact List.set_getElem_self hl
theorem set_get {st : St} {l : Nat} {o o' : MO} (h : st[l]? = some o) : (st.set l o')[l]? = some o' := by
  obtain ⟨hl, e⟩ := List.getElem?_eq_some_iff.mp h
  exact List.getElem?_set_self hl
theorem set_get_ne {st : St} {l k : Nat} {o o' : MO} (h : st[k]? = some o) (hne : l ≠ k) : (st.set l o')[k]? = some o := by
  rw [List.getElem?_set_ne hne]; exact h
theorem app_get {st t : St} {l : Nat} {o : MO} (h : st[l]? = some o) : (st ++ t)[l]? = some o := by
  obtain ⟨hl, e⟩ := List.getElem?_eq_some_iff.mp h
  rw [List.getElem?_append_left hl]; exact h
theorem app_new {st : St} {o : MO} : (st ++ [o])[st.length]? = some o := by simp
/-! what a frame holds -/
noncomputable def Has (lc : Lc) : List (Str × MV) → Prop
  | [] => True
  | p :: l => lc p.1 = some p.2 ∧ Has lc l
theorem Has.nil {lc : Lc} : Has lc [] := trivial
theorem Has.cons {lc : Lc} {x : Str} {v : MV} {l : List (Str × MV)} (h : lc x = some v) (r : Has lc l) : Has lc ((x, v) :: l) := ⟨h, r⟩
theorem Has.put {lc : Lc} {y : Str} {w : MV} : ∀ {l : List (Str × MV)}, Has lc l → (l.all fun p => decide (p.1 ≠ y)) = true → Has (lc.set y w) l
  | [], _, _ => trivial
  | p :: l, h, e => by
    obtain ⟨e1, e2⟩ := Bool.and_eq_true_iff.mp (show (_ && _) = true from e)
    exact ⟨(if_neg (of_decide_eq_true e1)).trans h.1, Has.put h.2 e2⟩
section
variable {lc : Lc} {x : Str} {v : MV} {p0 p1 p2 p3 p4 p5 p6 p7 p8 p9 pa pb : Str × MV} {l : List (Str × MV)}
theorem Has.h0 (h : Has lc ((x, v) :: l)) : lc x = some v := h.1
theorem Has.h1 (h : Has lc (p0 :: (x, v) :: l)) : lc x = some v := h.2.1
theorem Has.h2 (h : Has lc (p0 :: p1 :: (x, v) :: l)) : lc x = some v := h.2.2.1
theorem Has.h3 (h : Has lc (p0 :: p1 :: p2 :: (x, v) :: l)) : lc x = some v := h.2.2.2.1
theorem Has.h4 (h : Has lc (p0 :: p1 :: p2 :: p3 :: (x, v) :: l)) : lc x = some v := h.2.2.2.2.1
theorem Has.h5 (h : Has lc (p0 :: p1 :: p2 :: p3 :: p4 :: (x, v) :: l)) : lc x = some v := h.2.2.2.2.2.1
theorem Has.h6 (h : Has lc (p0 :: p1 :: p2 :: p3 :: p4 :: p5 :: (x, v) :: l)) : lc x = some v := h.2.2.2.2.2.2.1
theorem Has.h7 (h : Has lc (p0 :: p1 :: p2 :: p3 :: p4 :: p5 :: p6 :: (x, v) :: l)) : lc x = some v := h.2.2.2.2.2.2.2.1
theorem Has.h8 (h : Has lc (p0 :: p1 :: p2 :: p3 :: p4 :: p5 :: p6 :: p7 :: (x, v) :: l)) : lc x = some v := h.2.2.2.2.2.2.2.2.1
theorem Has.h9 (h : Has lc (p0 :: p1 :: p2 :: p3 :: p4 :: p5 :: p6 :: p7 :: p8 :: (x, v) :: l)) : lc x = some v := h.2.2.2.2.2.2.2.2.2.1
theorem Has.h10 (h : Has lc (p0 :: p1 :: p2 :: p3 :: p4 :: p5 :: p6 :: p7 :: p8 :: p9 :: (x, v) :: l)) : lc x = some v := h.2.2.2.2.2.2.2.2.2.2.1
theorem Has.h11 (h : Has lc (p0 :: p1 :: p2 :: p3 :: p4 :: p5 :: p6 :: p7 :: p8 :: p9 :: pa :: (x, v) :: l)) : lc x = some v := h.2.2.2.2.2.2.2.2.2.2.2.1
theorem Has.h12 (h : Has lc (p0 :: p1 :: p2 :: p3 :: p4 :: p5 :: p6 :: p7 :: p8 :: p9 :: pa :: pb :: (x, v) :: l)) : lc x = some v := h.2.2.2.2.2.2.2.2.2.2.2.2.1
end
set_option compiler.extract_closed false
/-- the rows of a name: a lemma and what closes its first goals, or ! and what to do -/
local macro_rules | `(tactic| walk_at $s) => do
  let k := s.getString
  if k = "rfl" then `(tactic| rfl)
  else if k = "asm" then `(tactic| with_reducible assumption)
  else if k = "dk" then `(tactic| decide +kernel)
  else if k = "kr" then `(tactic| kernel_rfl!)
  else if k = "kind" then `(tactic| ((try dsimp only [ME.kind]); decide +kernel))
  else if k = "own" then `(tactic| ((try dsimp only); decide +kernel))
  else if k = "lc" then `(tactic| repeat walk_at "l")
  else if k = "fre" then `(tactic| ((try dsimp only); walk_at "f"))
  else if k = "le" then `(tactic| exact Nat.le_of_ble_eq_true rfl)
  else if k = "ex" then `(tactic| with_reducible refine ⟨_, rfl, ?_⟩)
  else if k = "b" then `(tactic| with_reducible refine both rfl ?_)
  else if k = "n" then `(tactic| with_reducible refine neither rfl ?_)
  else if k = "o" then `(tactic| (simp only [decide_eq_true_eq, decide_eq_false_iff_not, Bool.not_eq_true', Bool.not_eq_false', Bool.not_true, Bool.not_false, reduceCtorEq]; first | done | omega))
  else
    let t :=
      if k = "at" then "! asm;app_new;set_get at;app_get at"
      else if k = "l" then "Lc.here;Lc.there dk;! asm;Has.h0 asm;Has.h1 asm;Has.h2 asm;Has.h3 asm;Has.h4 asm;Has.h5 asm;Has.h6 asm;Has.h7 asm;Has.h8 asm;Has.h9 asm;Has.h10 asm;Has.h11 asm"
      else if k = "has" then "! asm;Has.put has kr"
      else if k = "hasc" then "Has.nil;Has.cons lc hasc"
      else if k = "f" then "! rfl;capture_own dk kind own lc;capture_cell dk kind own fre;capture_free dk kind fre"
      else if k = "name" then "get_local kind lc;get_glob kind rfl;get_cell kind own lc;get_cell' kind own fre;get_free kind fre"
      else if k = "set" then "set_local kind;set_cell kind own"
      else if k = "ns" then "! name;! set"
      else if k = "nr" then "! name;! rfl"
      else if k = "rd" then "! rfl;! dk"
      else if k = "rdo" then "! rfl;! dk;! o"
      else if k = "asn" then "asn_cons set asn;asn_nil rfl"
      else if k = "ag" then "attr_get rfl at rfl"
      else if k = "m" then "thenX_next|thenX_ret|turnX_next|turnX_ret|retX_next|retX_ret|xs_ex|xs_nil|ex_return|ex_if|ex_while|ev_attr|ev_if|chain_one|chain_cons|tr_bool|tr_not|boolM_and|boolM_and0|boolM_or|boolM_or0|ev_not|ev_neg|evs_nil|evs_cons|ev_list0|dictOf_nil|dictOf_cons|evOpt_none|evOpt_some|ev_boolop|boolV_and|boolV_or|boolV_one|asg_attr|tests_nil|tests_cons;ev_name|asg_name ns;ex_expr|ex_assign|ev_const|ev_cmp|tr_cmp|ev_tuple|ev_dict|ev_subdict|ev_slice|ev_rep|ev_meth|ev_call|asg_sub|ev_comp|ex_for rfl;iter_bi name rd;iter_enum|ev_list|ev_sub nr rfl;ev_listc rfl rfl;iter_fn name;asg_tuple asn;iter_val|ev_bin|tr_val rfl"
      else if k = "e" then "callable_and rd;call_bi rfl;! ex;it_loc at;false_and' rd;! b;! n;both dk;neither dk;bop_and|cmp_and rfl;attrM_and rfl at rfl;setAttrM_and rfl at le rfl;meth_fn rfl at rfl rd;meth_attr rfl ag rd"
      else if k = "s" then "both o;neither o;both' rdo;neither' rdo"
      else ""
    if t = "" then Lean.Macro.throwUnsupported
    let alts ← (t.splitOn ";").toArray.mapM fun r => do
      let fs := (r.splitOn " ").toArray
      if fs[0]! = "!" then
        let f : Lean.StrLit := Lean.Syntax.mkStrLit fs[1]!
        `(tactic| walk_at $f)
      else
        let is ← (fs[0]!.splitOn "|").toArray.mapM fun x => do
          let i := Lean.mkIdent x.toName
          `(tactic| apply $i)
        let t ← `(tactic| with_reducible first $[| $is:tactic]*)
        if fs.size = 1 then return t
        let gs ← (fs.extract 1 fs.size).mapM fun f => do
          let f : Lean.StrLit := Lean.Syntax.mkStrLit f
          `(tactic| (· walk_at $f))
        let gs := #[t] ++ gs
        `(tactic| ($[$gs];*))
    `(tactic| first $[| $alts:tactic]*)
set_option maxHeartbeats 400000
inductive Kd where | all | lead | first | chars
  deriving DecidableEq
noncomputable def Kd.str : Kd → Str
  | .all => "ALL" | .lead => "LEADING" | .first => "FIRST" | .chars => "CHARACTERS"
noncomputable def Kd.w : Kd → UInt8 → MV
  | .chars, _ => .none
  | _, u => .bytes [u]
noncomputable def optV : Option Nat → MV
  | none => .none
  | some i => .int i
structure Sk where
  kd : Kd
  u : UInt8
  b : Nat
  e : Nat
  ld : Option Nat
  d : Bool
noncomputable def Sk.fs (s : Sk) : List (Str × MV) := [("kind", .str s.kd.str), ("wanted", s.kd.w s.u), ("begin", .int s.b), ("end", .int s.e), ("lead", optV s.ld), ("is_done", .bool s.d)]
noncomputable abbrev Sk.mo (s : Sk) : MO := .inst s.fs
noncomputable def reachS (a : Nat) (s : Sk) : Sk := if s.ld = none ∧ s.b ≤ a ∧ a < s.e then { s with ld := some a } else s
noncomputable def fitS (o : List UInt8) (a : Nat) (s : Sk) : Bool := !s.d && decide (s.b ≤ a) && decide (a + 1 ≤ s.e) && (match s.kd with
  | .chars => true
  | .lead => decide (s.ld = some a) && decide (o[a]? = some s.u)
  | _ => decide (o[a]? = some s.u))
noncomputable def tookS (a : Nat) (s : Sk) : Sk := { s with ld := some (a + 1), d := decide (s.kd = .first) }

theorem width_ok {s : Sk} {l : Nat} {st : St} {n : Nat} {Q : MV → St → Prop} (h : st[l]? = some (.inst s.fs)) (q : Q (.int 1) st) : W2 ((run lawP (n+12)).call (.fn 132) [.ins 156 l] st) Q := by
  refine call_def (lc0 := Lc.nil.set "self" (.ins 156 l)) (by decide +kernel) (by decide +kernel) rfl rfl rfl ?_
  obtain ⟨kd, u, b, e, ld, d⟩ := s
  repeat (first | walk_at "m" | walk_at "e")
  cases kd
  all_goals
    repeat (first | walk_at "m" | walk_at "e")
    exact q
theorem set_keep {s : Sk} {l : Nat} {st : St} (h : st[l]? = some (.inst s.fs)) {Q : MV → St → Prop} {v : MV} (q : Q v (st.set l s.mo)) : Q v st := by
  rw [show s.mo = .inst s.fs from rfl, set_same h] at q; exact q
theorem reach_ok {s : Sk} {l a : Nat} {st : St} {n : Nat} {Q : MV → St → Prop} (h : st[l]? = some (.inst s.fs)) (q : Q .none (st.set l (reachS a s).mo)) : W2 ((run lawP (n+16)).call (.fn 139) [.ins 156 l, .int a] st) Q := by
  refine call_def (lc0 := (Lc.nil.set "self" (.ins 156 l)).set "at" (.int a)) (by decide +kernel) (by decide +kernel) rfl rfl rfl ?_
  obtain ⟨kd, u, b, e, ld, d⟩ := s
  induction ld using Option.casesOn with
  | none =>
    repeat (first | walk_at "m" | walk_at "e")
    refine ⟨fun hc => ?_, fun hc => ?_⟩
    · repeat (first | walk_at "m" | walk_at "e")
      refine ⟨fun hd => ?_, fun hd => ?_⟩
      · repeat (first | walk_at "m" | walk_at "e")
        simp only [decide_eq_true_eq] at hc hd
        have hr : reachS a { kd := kd, u := u, b := b, e := e, ld := none, d := d } = { kd := kd, u := u, b := b, e := e, ld := some a, d := d } := if_pos ⟨rfl, Int.ofNat_le.mp hc, Int.ofNat_lt.mp hd⟩
        rw [hr] at q
        exact q
      · repeat (first | walk_at "m" | walk_at "e")
        simp only [decide_eq_false_iff_not] at hd
        have hr : reachS a { kd := kd, u := u, b := b, e := e, ld := none, d := d } = { kd := kd, u := u, b := b, e := e, ld := none, d := d } := if_neg fun h => hd (Int.ofNat_lt.mpr h.2.2)
        rw [hr] at q
        exact set_keep h q
    · repeat (first | walk_at "m" | walk_at "e")
      simp only [decide_eq_false_iff_not] at hc
      have hr : reachS a { kd := kd, u := u, b := b, e := e, ld := none, d := d } = { kd := kd, u := u, b := b, e := e, ld := none, d := d } := if_neg fun h => hc (Int.ofNat_le.mpr h.2.1)
      rw [hr] at q
      exact set_keep h q
  | some x =>
    have hr : reachS a { kd := kd, u := u, b := b, e := e, ld := some x, d := d } = { kd := kd, u := u, b := b, e := e, ld := some x, d := d } := if_neg fun h => nomatch h.1
    rw [hr] at q
    repeat (first | walk_at "m" | walk_at "e")
    exact set_keep h q
theorem took_ok {s : Sk} {l a : Nat} {st : St} {n : Nat} {Q : MV → St → Prop} (h : st[l]? = some (.inst s.fs)) (q : Q .none (st.set l (tookS a s).mo)) : W2 ((run lawP (n+26)).call (.fn 153) [.ins 156 l, .int a] st) Q := by
  refine call_def (lc0 := (Lc.nil.set "self" (.ins 156 l)).set "at" (.int a)) (by decide +kernel) (by decide +kernel) rfl rfl rfl ?_
  repeat (first | walk_at "m" | walk_at "e")
  refine width_ok h ?_
  have h2 := @set_get st l _ (MO.inst { s with ld := some (a + 1) }.fs) h
  have h3 := @set_get st l _ (MO.inst (tookS a s).fs) h
  obtain ⟨kd, u, b, e, ld, d⟩ := s
  repeat (first | walk_at "m" | walk_at "e")
  rw [List.set_set]
  have hf : (dput (Sk.fs { kd := kd, u := u, b := b, e := e, ld := some (a + 1), d := d }) "is_done" (MV.bool (decide (kd.str = "FIRST")))) = (tookS a { kd := kd, u := u, b := b, e := e, ld := ld, d := d }).fs := by
    cases kd <;> rfl
  exact (congrArg (fun x => Q .none (st.set l (.inst x))) hf).mpr q
theorem slice1 (o : List UInt8) (a : Nat) (u : UInt8) : (o.take (a + 1)).drop a = [u] ↔ o[a]? = some u := by
  induction o generalizing a with
  | nil => simp
  | cons x r ih =>
    induction a using Nat.casesOn with
    | zero => simp
    | succ a => simpa using ih a
theorem slice_at (o : List UInt8) (a : Nat) (u : UInt8) : decide (List.drop (a : Int).toNat (List.take ((a : Int) + (([u] : List UInt8).length : Nat)).toNat o) = [u]) = decide (o[a]? = some u) := by
  rw [show ((a : Int) + (([u] : List UInt8).length : Nat)).toNat = a + 1 by simp, Int.toNat_natCast]
  exact decide_eq_decide.mpr (slice1 o a u)
theorem lies_ok {o : List UInt8} {u : UInt8} {a : Nat} {st : St} {n : Nat} {Q : MV → St → Prop} (q : Q (.bool (decide (o[a]? = some u))) st) : W2 ((run lawP (n+16)).call (.fn 62) [.bytes o, .bytes [u], .int a] st) Q := by
  refine call_def (lc0 := ((Lc.nil.set "octets" (.bytes o)).set "wanted" (.bytes [u])).set "at" (.int a)) (by decide +kernel) (by decide +kernel) rfl rfl rfl ?_
  repeat (first | walk_at "m" | walk_at "e")
  rw [slice_at]
  exact q
theorem fit_ok {s : Sk} {o : List UInt8} {l a : Nat} {st : St} {n : Nat} {Q : MV → St → Prop} (h : st[l]? = some (.inst s.fs)) (hl : s.b ≤ a → a < s.e → s.ld ≠ none) (q : Q (.bool (fitS o a s)) st) :
    W2 ((run lawP (n+36)).call (.fn 146) [.ins 156 l, .bytes o, .int a] st) Q := by
  refine call_def (lc0 := ((Lc.nil.set "self" (.ins 156 l)).set "octets" (.bytes o)).set "at" (.int a)) (by decide +kernel) (by decide +kernel) rfl rfl rfl ?_
  obtain ⟨kd, u, b, e, ld, d⟩ := s
  dsimp only at hl
  induction d using Bool.casesOn with
  | true =>
    repeat (first | walk_at "m" | walk_at "e" | walk_at "s")
    exact q
  | false =>
  by_cases hb : b ≤ a
  case neg =>
    repeat (first | walk_at "m" | walk_at "e" | walk_at "s")
    rw [show fitS o a { kd := kd, u := u, b := b, e := e, ld := ld, d := false } = false by simp [fitS, hb]] at q
    exact q
  by_cases he : a + 1 ≤ e
  case neg =>
    repeat (first | walk_at "m" | walk_at "e" | walk_at "s")
    refine width_ok h ?_
    repeat (first | walk_at "m" | walk_at "e" | walk_at "s")
    rw [show fitS o a { kd := kd, u := u, b := b, e := e, ld := ld, d := false } = false by simp [fitS, he]] at q
    exact q
  obtain ⟨x, rfl⟩ : ∃ x, ld = some x := by
    induction ld using Option.casesOn with
    | none => exact absurd rfl (hl hb (by omega))
    | some x => exact ⟨x, rfl⟩
  repeat (first | walk_at "m" | walk_at "e" | walk_at "s")
  refine width_ok h ?_
  induction kd using Kd.casesOn with
  | chars =>
    repeat (first | walk_at "m" | walk_at "e" | walk_at "s")
    rw [show fitS o a { kd := .chars, u := u, b := b, e := e, ld := some x, d := false } = true by simp [fitS, he, hb]] at q
    exact q
  | all =>
    repeat (first | walk_at "m" | walk_at "e" | walk_at "s")
    refine lies_ok ?_
    rw [show fitS o a { kd := .all, u := u, b := b, e := e, ld := some x, d := false } = decide (o[a]? = some u) by simp [fitS, he, hb]] at q
    exact q
  | first =>
    repeat (first | walk_at "m" | walk_at "e" | walk_at "s")
    refine lies_ok ?_
    rw [show fitS o a { kd := .first, u := u, b := b, e := e, ld := some x, d := false } = decide (o[a]? = some u) by simp [fitS, he, hb]] at q
    exact q
  | lead =>
    repeat (first | walk_at "m" | walk_at "e" | walk_at "s")
    by_cases hx : x = a
    · repeat (first | walk_at "m" | walk_at "e" | walk_at "s")
      refine lies_ok ?_
      rw [show fitS o a { kd := .lead, u := u, b := b, e := e, ld := some x, d := false } = decide (o[a]? = some u) by simp [fitS, he, hb, hx]] at q
      exact q
    · repeat (first | walk_at "m" | walk_at "e" | walk_at "s")
      rw [show fitS o a { kd := .lead, u := u, b := b, e := e, ld := some x, d := false } = false by simp [fitS, he, hb, hx]] at q
      exact q
set_option maxHeartbeats 1000000
theorem smallR_of {a b : Int} (ha : -1048576 ≤ a) (ha' : a ≤ 1048576) (hb : -1048576 ≤ b) (hb' : b ≤ 1048576) : smallR a b = true := by
  unfold smallR; rw [decide_eq_true ha, decide_eq_true ha', decide_eq_true hb, decide_eq_true hb']; rfl
theorem call_range1 {P : MP} {n : Nat} {st : St} {Q : MV → St → Prop} {b : Int} (h : smallR 0 b = true) (q : Q (.rng 0 b 1) st) : W2 ((run P (n + 1)).call (.bi .range) [.int b] st) Q :=
  call_bi (by show Option.map (fun r => (r, st)) (if smallR 0 b = true then some (MV.rng 0 b 1) else Option.none) = _; rw [if_pos h]; rfl) q
theorem call_range2 {P : MP} {n : Nat} {st : St} {Q : MV → St → Prop} {a b : Int} (h : smallR a b = true) (q : Q (.rng a b 1) st) : W2 ((run P (n + 1)).call (.bi .range) [.int a, .int b] st) Q :=
  call_bi (by show Option.map (fun r => (r, st)) (if smallR a b = true then some (MV.rng a b 1) else Option.none) = _; rw [if_pos h]; rfl) q
theorem it_rng {a b : Int} {st : St} {Q : It → Prop} (h : smallR a b = true) (q : Q (rngAt a (b - a).toNat 0)) : ∃ i, itOf (.rng a b 1) st = some i ∧ Q i := by
  refine ⟨_, ?_, q⟩
  show (if _ then _ else _) = _
  rw [h, if_pos (by simp)]
  show some (It.rng a 1 (b - a).toNat) = some (It.rng (a + ((0 : Nat) : Int)) 1 ((b - a).toNat - 0))
  rw [Int.natCast_zero, Int.add_zero, Nat.sub_zero]
noncomputable def posOf (o : List UInt8) (u : UInt8) : Option Nat := o.findIdx? (· == u)
theorem posOf_some {o : List UInt8} {u : UInt8} {k : Nat} (h : o[k]? = some u) (h' : ∀ j < k, o[j]? ≠ some u) : posOf o u = some k := by
  unfold posOf
  rw [List.findIdx?_eq_some_iff_getElem]
  obtain ⟨hl, e⟩ := List.getElem?_eq_some_iff.mp h
  refine ⟨hl, by simp [e], fun j hj => ?_⟩
  have := h' j hj
  rw [List.getElem?_eq_getElem (by omega)] at this
  simpa using fun e => this (by rw [e])
theorem posOf_none {o : List UInt8} {u : UInt8} (h' : ∀ j < o.length, o[j]? ≠ some u) : posOf o u = none := by
  unfold posOf
  rw [List.findIdx?_eq_none_iff]
  intro x hx
  obtain ⟨j, hj, e⟩ := List.getElem_of_mem hx
  have := h' j hj
  rw [List.getElem?_eq_getElem hj, e] at this
  simpa using fun e => this (by rw [e])
theorem firstat_ok {o : List UInt8} {u : UInt8} {st : St} {n : Nat} {Q : MV → St → Prop} (hl : o.length ≤ 16) (q : Q (.int (match posOf o u with | some k => (k : Int) | none => -1)) st) :
    W2 ((run lawP (n+60)).call (.fn 69) [.bytes o, .bytes [u], .int 0] st) Q := by
  refine call_def (lc0 := ((Lc.nil.set "octets" (.bytes o)).set "wanted" (.bytes [u])).set "begin" (.int 0)) (by decide +kernel) (by decide +kernel) rfl rfl rfl ?_
  repeat (first | walk_at "m" | walk_at "e" | walk_at "s")
  apply call_range2
  · exact smallR_of (by omega) (by omega) (by omega) (by omega)
  apply it_rng
  · exact smallR_of (by omega) (by omega) (by omega) (by omega)
  rw [show ((o.length : Int) - 0).toNat = o.length by omega]
  refine loop_inv 36 o.length (rngAt 0 o.length) (fun i => .int ((0 : Int) + i)) (fun i lc st' => lc "octets" = some (.bytes o) ∧ lc "wanted" = some (.bytes [u]) ∧ st' = st ∧ ∀ j < i, o[j]? ≠ some u)
    (fun _ => rfl) (fun i lc st hi _ => rngAt_next hi) (fun _ _ _ => rngAt_end) ?_ ?_ o.length 0 _ _ _ (by omega) (by omega) ⟨rfl, rfl, rfl, fun j hj => absurd hj (Nat.not_lt_zero _)⟩
  · intro i m lc st' hi ⟨h1, h2, h3, h4⟩
    subst h3
    rw [Int.zero_add]
    repeat (first | walk_at "m" | walk_at "e" | walk_at "s")
    refine lies_ok ?_
    refine ⟨_, rfl, ?_⟩
    by_cases h : o[i]? = some u
    · repeat (first | walk_at "m" | walk_at "e" | walk_at "s")
      rw [posOf_some h h4] at q
      exact q
    · repeat (first | walk_at "m" | walk_at "e" | walk_at "s")
      refine ⟨by walk_at "lc", by walk_at "lc", rfl, fun j hj => ?_⟩
      by_cases e : j = i
      · rw [e]; exact h
      · exact h4 j (by omega)
  · intro lc st' ⟨h1, h2, h3, h4⟩
    subst h3
    repeat (first | walk_at "m" | walk_at "e" | walk_at "s")
    rw [posOf_none h4] at q
    exact q
noncomputable def begOf (o : List UInt8) : Option UInt8 → Nat
  | none => 0
  | some u => match posOf o u with | none => o.length | some k => k + 1
noncomputable def endOf (o : List UInt8) : Option UInt8 → Nat
  | none => o.length
  | some u => match posOf o u with | none => o.length | some k => k
/-- an octet that may be lacking -/
noncomputable def optB : Option UInt8 → MV
  | none => .none
  | some u => .bytes [u]
theorem begin_ok {o : List UInt8} {w : Option UInt8} {st : St} {n : Nat} {Q : MV → St → Prop} (hl : o.length ≤ 16) (q : Q (.int (begOf o w)) st) :
    W2 ((run lawP (n+80)).call (.fn 104) [.bytes o, optB w] st) Q := by
  refine call_def (lc0 := (Lc.nil.set "octets" (.bytes o)).set "after" (optB w)) (by decide +kernel) (by decide +kernel) rfl rfl rfl ?_
  induction w using Option.casesOn with
  | none =>
    repeat (first | walk_at "m" | walk_at "e" | walk_at "s")
    exact q
  | some u =>
    unfold begOf at q
    dsimp only at q
    repeat (first | walk_at "m" | walk_at "e" | walk_at "s")
    refine firstat_ok hl ?_
    cases h : posOf o u with
    | none =>
      rw [h] at q
      dsimp only at q ⊢
      repeat (first | walk_at "m" | walk_at "e" | walk_at "s")
      exact q
    | some k =>
      rw [h] at q
      dsimp only at q ⊢
      repeat (first | walk_at "m" | walk_at "e" | walk_at "s")
      exact q
theorem end_ok {o : List UInt8} {w : Option UInt8} {st : St} {n : Nat} {Q : MV → St → Prop} (hl : o.length ≤ 16) (q : Q (.int (endOf o w)) st) :
    W2 ((run lawP (n+80)).call (.fn 111) [.bytes o, optB w] st) Q := by
  refine call_def (lc0 := (Lc.nil.set "octets" (.bytes o)).set "before" (optB w)) (by decide +kernel) (by decide +kernel) rfl rfl rfl ?_
  induction w using Option.casesOn with
  | none =>
    repeat (first | walk_at "m" | walk_at "e" | walk_at "s")
    exact q
  | some u =>
    unfold endOf at q
    dsimp only at q
    repeat (first | walk_at "m" | walk_at "e" | walk_at "s")
    refine firstat_ok hl ?_
    cases h : posOf o u with
    | none =>
      rw [h] at q
      dsimp only at q ⊢
      repeat (first | walk_at "m" | walk_at "e" | walk_at "s")
      exact q
    | some k =>
      rw [h] at q
      dsimp only at q ⊢
      repeat (first | walk_at "m" | walk_at "e" | walk_at "s")
      exact q
set_option maxHeartbeats 1000000
theorem set_app_new {st : St} {a b : MO} : (st ++ [a]).set st.length b = st ++ [b] := by simp
theorem seekinit_ok {k w b e : MV} {l : Nat} {st : St} {n : Nat} {Q : MV → St → Prop} (h : st[l]? = some (.inst []))
    (q : Q .none (st.set l (.inst [("kind", k), ("wanted", w), ("begin", b), ("end", e), ("lead", .none), ("is_done", .bool false)]))) :
    W2 ((run lawP (n+20)).call (.fn 125) [.ins 156 l, k, w, b, e] st) Q := by
  refine call_def (lc0 := ((((Lc.nil.set "self" (.ins 156 l)).set "kind" k).set "wanted" w).set "begin" b).set "end" e) (by decide +kernel) (by decide +kernel) rfl rfl rfl ?_
  repeat (first | walk_at "m" | walk_at "e" | walk_at "s")
  simp only [List.set_set]
  exact q
theorem seeker_ok {kd : Kd} {u : UInt8} {o : List UInt8} {af be : Option UInt8} {st : St} {n : Nat} {Q : MV → St → Prop} (hl : o.length ≤ 16)
    (q : Q (.ins 156 st.length) (st ++ [Sk.mo ⟨kd, u, begOf o af, endOf o be, none, false⟩])) :
    W2 ((run lawP (n+100)).call (.fn 167) [.bytes o, .str kd.str, kd.w u, optB be, optB af] st) Q := by
  refine call_def (lc0 := ((((Lc.nil.set "octets" (.bytes o)).set "kind" (.str kd.str)).set "wanted" (kd.w u)).set "before" (optB be)).set "after" (optB af)) (by decide +kernel) (by decide +kernel) rfl rfl rfl ?_
  cases kd
  all_goals
    repeat (first | walk_at "m" | walk_at "e" | walk_at "s")
    refine meth_split ?_
    repeat (first | walk_at "m" | walk_at "e" | walk_at "s")
    refine ⟨_, _, rfl, rfl, ?_⟩
    repeat (first | walk_at "m" | walk_at "e" | walk_at "s")
    refine begin_ok hl ?_
    repeat (first | walk_at "m" | walk_at "e" | walk_at "s")
    refine end_ok hl ?_
    repeat (first | walk_at "m" | walk_at "e" | walk_at "s")
    refine call_cls rfl ?_
    refine seekinit_ok app_new ?_
    rw [set_app_new]
    refine ⟨rfl, ?_⟩
    repeat (first | walk_at "m" | walk_at "e" | walk_at "s")
    exact q
set_option maxHeartbeats 1000000
/-- the first of the first seekers that fits -/
noncomputable def ffit (o : List UInt8) (a : Nat) (ss : Nat → Sk) : Nat → Option Nat
  | 0 => none
  | k + 1 => match ffit o a ss k with
    | some t => some t
    | none => if fitS o a (ss k) then some k else none
noncomputable def stepS (o : List UInt8) (k a : Nat) (ss : Nat → Sk) : Nat → Sk := fun i => if ffit o a (fun i => reachS a (ss i)) k = some i then tookS a (reachS a (ss i)) else reachS a (ss i)
noncomputable def runS (o : List UInt8) (k : Nat) (ss : Nat → Sk) : Nat → Nat → Sk
  | 0 => ss
  | a + 1 => stepS o k a (runS o k ss a)
noncomputable def takerS (o : List UInt8) (k : Nat) (ss : Nat → Sk) (a : Nat) : Option Nat := ffit o a (fun i => reachS a (runS o k ss a i)) k
noncomputable def foundS (o : List UInt8) (k : Nat) (ss : Nat → Sk) : Nat → List MV
  | 0 => []
  | a + 1 => match takerS o k ss a with
    | none => foundS o k ss a
    | some t => foundS o k ss a ++ [.tup [.int a, .int t]]
noncomputable def SkAt (st : St) (base k : Nat) (ss : Nat → Sk) : Prop := ∀ i < k, st[base + i]? = some (ss i).mo
noncomputable def skV (base k : Nat) : List MV := (List.range k).map fun i => .ins 156 (base + i)
theorem skV_get {base k i : Nat} (h : i < k) : (skV base k)[i]? = some (.ins 156 (base + i)) := by
  unfold skV; simp [h]
theorem skV_len {base k : Nat} : (skV base k).length = k := by unfold skV; simp
theorem reach_ld {a : Nat} {s : Sk} : (reachS a s).b ≤ a → a < (reachS a s).e → (reachS a s).ld ≠ none := by
  unfold reachS
  split
  · rename_i h; intro _ _ h'; cases h'
  · rename_i h; intro h1 h2 h3; exact h ⟨h3, h1, h2⟩
theorem ffit_lt {o : List UInt8} {a k t : Nat} {ss : Nat → Sk} (h : ffit o a ss k = some t) : t < k := by
  induction k with
  | zero => cases h
  | succ k ih =>
    unfold ffit at h
    split at h
    · rename_i e; cases h; have := ih e; omega
    · split at h
      · cases h; omega
      · cases h
theorem foundS_len {o : List UInt8} {k : Nat} {ss : Nat → Sk} {a : Nat} : (foundS o k ss a).length ≤ a := by
  induction a with
  | zero => exact Nat.le_refl _
  | succ a ih =>
    unfold foundS
    split
    · omega
    · simp; omega
theorem item_lst {xs : List MV} {t : Nat} {v : MV} {st : St} {Q : MV → Prop} (h : xs[t]? = some v) (q : Q v) : ∃ r, getItemM (.lst xs) (.int t) st = some r ∧ Q r :=
  ⟨v, by show idxM xs t = _; unfold idxM; rw [if_pos (Int.natCast_nonneg t)]; exact h, q⟩
theorem item_loc {l : Nat} {xs : List MV} {t : Nat} {v : MV} {st : St} {Q : MV → Prop} (hl : st[l]? = some (.list xs)) (h : xs[t]? = some v) (q : Q v) : ∃ r, getItemM (.loc l) (.int t) st = some r ∧ Q r :=
  ⟨v, by show Option.bind (listAt st l) _ = _; rw [listAt_of hl]; show idxM xs t = _; unfold idxM; rw [if_pos (Int.natCast_nonneg t)]; exact h, q⟩
theorem fits_ok {o : List UInt8} {ss : Nat → Sk} {k base : Nat} {st : St} {n : Nat} {Q : MV → St → Prop} (hl : o.length ≤ 16) (hk : k ≤ 8) (hs : SkAt st base k ss)
    (q : ∀ st', Frame (fun l => base ≤ l ∧ l < base + k) st st' → st'[st.length]? = some (.list (foundS o k ss o.length)) → SkAt st' base k (runS o k ss o.length) → Q (.loc st.length) st') :
    W2 ((run lawP (n+140)).call (.fn 174) [.bytes o, .lst (skV base k)] st) Q := by
  refine call_def (lc0 := (Lc.nil.set "octets" (.bytes o)).set "seekers" (.lst (skV base k))) (by decide +kernel) (by decide +kernel) rfl rfl rfl ?_
  have hlt : ∀ i < k, base + i < st.length := fun i hi => (List.getElem?_eq_some_iff.mp (hs i hi)).1
  repeat (first | walk_at "m" | walk_at "e" | walk_at "s")
  refine whil_inv 100 o.length (fun a lc st' => lc "octets" = some (.bytes o) ∧ lc "seekers" = some (.lst (skV base k)) ∧ lc "found" = some (.loc st.length) ∧ lc "at" = some (.int a) ∧
    Frame (fun l => base ≤ l ∧ l < base + k) st st' ∧ st'[st.length]? = some (.list (foundS o k ss a)) ∧ SkAt st' base k (runS o k ss a)) ?_ ?_ o.length 0 _ _ _ (by omega) (by omega)
    ⟨by walk_at "lc", by walk_at "lc", by walk_at "lc", Lc.here, Frame.add, app_new, fun i hi => app_get (hs i hi)⟩
  · intro a m lc st' ha ⟨h1, h2, h3, h4, hF, hf, hS⟩
    repeat (first | walk_at "m" | walk_at "e" | walk_at "s")
    refine ⟨by simp only [decide_eq_true_eq]; omega, ?_⟩
    repeat (first | walk_at "m" | walk_at "e" | walk_at "s")
    refine ⟨rfl, ?_⟩
    refine loop_inv 60 k (fun i => .enm i (.lst (skV base k) i)) (fun i => .tup [.int i, .ins 156 (base + i)]) (fun j lc st2 => lc "octets" = some (.bytes o) ∧ lc "seekers" = some (.lst (skV base k)) ∧ lc "found" = some (.loc st.length) ∧ lc "at" = some (.int a) ∧
      lc "taker" = some (optV (ffit o a (fun i => reachS a (runS o k ss a i)) j)) ∧
      Frame (fun l => base ≤ l ∧ l < base + k) st st2 ∧ st2[st.length]? = some (.list (foundS o k ss a)) ∧ SkAt st2 base k (fun i => if i < j then reachS a (runS o k ss a i) else runS o k ss a i))
      (fun _ => rfl) (fun i lc st hi _ => enm_next (lst_next (skV_get hi))) (fun _ _ _ => enm_end (lst_end (by rw [skV_len]; exact Nat.le_refl _))) ?_ ?_ k 0 _ _ _ (by omega) (by omega)
      ⟨by walk_at "lc", by walk_at "lc", by walk_at "lc", by walk_at "lc", Lc.here, hF, hf, fun i hi => by simpa using hS i hi⟩
    · intro j m lc st2 hj ⟨h1, h2, h3, h4, h5, hF, hf, hS⟩
      have hj' := hS j hj
      dsimp only at hj'
      rw [if_neg (Nat.lt_irrefl j)] at hj'
      repeat (first | walk_at "m" | walk_at "e" | walk_at "s")
      refine reach_ok hj' ?_
      have hj2 := @set_get st2 (base + j) _ (reachS a (runS o k ss a j)).mo hj'
      have hF2 : Frame (fun l => base ≤ l ∧ l < base + k) st (st2.set (base + j) (reachS a (runS o k ss a j)).mo) := hF.trans (Frame.put ⟨by omega, by omega⟩)
      have hf2 : (st2.set (base + j) (reachS a (runS o k ss a j)).mo)[st.length]? = some (.list (foundS o k ss a)) := set_get_ne hf (by have := hlt j hj; omega)
      have hS2 : SkAt (st2.set (base + j) (reachS a (runS o k ss a j)).mo) base k fun i => if i < j + 1 then reachS a (runS o k ss a i) else runS o k ss a i := by
        intro i hi
        by_cases e : i = j
        · subst e
          dsimp only
          rw [if_pos (Nat.lt_succ_self i)]
          exact hj2
        · have := hS i hi
          dsimp only at this ⊢
          simp only [show (i < j + 1) ↔ (i < j) by omega]
          exact set_get_ne this (by omega)
      repeat (first | walk_at "m" | walk_at "e" | walk_at "s")
      cases ht : ffit o a (fun i => reachS a (runS o k ss a i)) j with
      | some t =>
        rw [ht] at h5
        repeat (first | walk_at "m" | walk_at "e" | walk_at "s")
        have hft : ffit o a (fun i => reachS a (runS o k ss a i)) (j + 1) = some t := by unfold ffit; rw [ht]
        rw [hft]
        exact ⟨by walk_at "lc", by walk_at "lc", by walk_at "lc", by walk_at "lc", by walk_at "lc", hF2, hf2, hS2⟩
      | none =>
        rw [ht] at h5
        repeat (first | walk_at "m" | walk_at "e" | walk_at "s")
        refine fit_ok hj2 (fun h1 h2 => reach_ld h1 h2) ?_
        repeat (first | walk_at "m" | walk_at "e" | walk_at "s")
        cases hfit : fitS o a (reachS a (runS o k ss a j)) with
        | true =>
          have hft : ffit o a (fun i => reachS a (runS o k ss a i)) (j + 1) = some j := by unfold ffit; rw [ht]; exact if_pos hfit
          rw [hft]
          repeat (first | walk_at "m" | walk_at "e" | walk_at "s")
          exact ⟨by walk_at "lc", by walk_at "lc", by walk_at "lc", by walk_at "lc", Lc.here, hF2, hf2, hS2⟩
        | false =>
          have hft : ffit o a (fun i => reachS a (runS o k ss a i)) (j + 1) = none := by unfold ffit; rw [ht]; exact if_neg (by rw [hfit]; decide)
          rw [hft]
          repeat (first | walk_at "m" | walk_at "e" | walk_at "s")
          exact ⟨by walk_at "lc", by walk_at "lc", by walk_at "lc", by walk_at "lc", by walk_at "lc", hF2, hf2, hS2⟩
    · intro lc st2 ⟨h1, h2, h3, h4, h5, hF, hf, hS⟩
      have hS' : SkAt st2 base k (fun i => reachS a (runS o k ss a i)) := fun i hi => by
        have := hS i hi
        dsimp only at this
        rw [if_pos hi] at this
        exact this
      repeat (first | walk_at "m" | walk_at "e" | walk_at "s")
      cases ht : ffit o a (fun i => reachS a (runS o k ss a i)) k with
      | none =>
        rw [ht] at h5
        have hfo : foundS o k ss (a + 1) = foundS o k ss a := by
          show (match takerS o k ss a with | none => foundS o k ss a | some t => _) = _
          rw [show takerS o k ss a = none from ht]
        have hru : runS o k ss (a + 1) = fun i => reachS a (runS o k ss a i) := by
          funext i
          show (if ffit o a (fun i => reachS a (runS o k ss a i)) k = some i then _ else _) = _
          rw [ht, if_neg (by simp)]
        rw [hfo, hru]
        repeat (first | walk_at "m" | walk_at "e" | walk_at "s")
        exact ⟨by walk_at "lc", by walk_at "lc", by walk_at "lc", Lc.here, hF, hf, hS'⟩
      | some t =>
        rw [ht] at h5
        replace h5 : lc "taker" = some (.int t) := h5
        have htk := ffit_lt ht
        have hfo : foundS o k ss (a + 1) = foundS o k ss a ++ [.tup [.int a, .int t]] := by
          show (match takerS o k ss a with | none => foundS o k ss a | some t => _) = _
          rw [show takerS o k ss a = some t from ht]
        have hru : runS o k ss (a + 1) = fun i => if t = i then tookS a (reachS a (runS o k ss a i)) else reachS a (runS o k ss a i) := by
          funext i
          show (if ffit o a (fun i => reachS a (runS o k ss a i)) k = some i then _ else _) = _
          rw [ht]
          simp only [Option.some.injEq]
        have htS : st2[base + t]? = some (.inst (reachS a (runS o k ss a t)).fs) := hS' t htk
        have hlen := @foundS_len o k ss a
        repeat (first | walk_at "m" | walk_at "e" | walk_at "s")
        refine meth_append hf ?_
        repeat (first | walk_at "m" | walk_at "e" | walk_at "s")
        refine ⟨_, _, rfl, hf, by omega, ?_⟩
        rw [← hfo]
        have hne := hlt t htk
        have hF3 : Frame (fun l => base ≤ l ∧ l < base + k) st (st2.set st.length (.list (foundS o k ss (a + 1)))) :=
          ⟨by rw [List.length_set]; exact hF.1, fun l hl hn => by rw [List.getElem?_set_ne (by omega)]; exact hF.2 l hl hn⟩
        have hf3 : (st2.set st.length (.list (foundS o k ss (a + 1))))[st.length]? = some (.list (foundS o k ss (a + 1))) := set_get hf
        have htS3 : (st2.set st.length (.list (foundS o k ss (a + 1))))[base + t]? = some (.inst (reachS a (runS o k ss a t)).fs) := set_get_ne htS (by omega)
        have hS3 : SkAt (st2.set st.length (.list (foundS o k ss (a + 1)))) base k (fun i => reachS a (runS o k ss a i)) := fun i hi => set_get_ne (hS' i hi) (by have := hlt i hi; omega)
        repeat (first | walk_at "m" | walk_at "e" | walk_at "s")
        refine item_lst (skV_get htk) ?_
        repeat (first | walk_at "m" | walk_at "e" | walk_at "s")
        refine took_ok htS3 ?_
        generalize hst4 : (st2.set st.length (.list (foundS o k ss (a + 1)))) = st3 at *
        have hF4 : Frame (fun l => base ≤ l ∧ l < base + k) st (st3.set (base + t) (tookS a (reachS a (runS o k ss a t))).mo) := hF3.trans (Frame.put ⟨by omega, by omega⟩)
        have hf4 : (st3.set (base + t) (tookS a (reachS a (runS o k ss a t))).mo)[st.length]? = some (.list (foundS o k ss (a + 1))) := set_get_ne hf3 (by omega)
        have ht4 := @set_get st3 (base + t) _ (tookS a (reachS a (runS o k ss a t))).mo htS3
        have hS4 : SkAt (st3.set (base + t) (tookS a (reachS a (runS o k ss a t))).mo) base k (runS o k ss (a + 1)) := by
          intro i hi
          rw [hru]
          dsimp only
          by_cases e : t = i
          · subst e
            rw [if_pos rfl]
            exact ht4
          · rw [if_neg e]
            exact set_get_ne (hS3 i hi) (by omega)
        generalize hst5 : (st3.set (base + t) (tookS a (reachS a (runS o k ss a t))).mo) = st4 at *
        repeat (first | walk_at "m" | walk_at "e" | walk_at "s")
        refine item_lst (skV_get htk) ?_
        repeat (first | walk_at "m" | walk_at "e" | walk_at "s")
        refine width_ok ht4 ?_
        repeat (first | walk_at "m" | walk_at "e" | walk_at "s")
        exact ⟨by walk_at "lc", by walk_at "lc", by walk_at "lc", Lc.here, hF4, hf4, hS4⟩
  · intro m lc st' ⟨h1, h2, h3, h4, hF, hf, hS⟩
    repeat (first | walk_at "m" | walk_at "e" | walk_at "s")
    refine ⟨by simp only [decide_eq_false_iff_not]; omega, ?_⟩
    repeat (first | walk_at "m" | walk_at "e" | walk_at "s")
    exact q _ hF hf hS
set_option maxHeartbeats 1000000
structure Rw where
  kd : Kd
  u : UInt8
  be : Option UInt8
  af : Option UInt8
noncomputable abbrev rowV (r : Rw) : MV := .tup [.str r.kd.str, r.kd.w r.u, optB r.be, optB r.af]
noncomputable def skOf (o : List UInt8) (r : Rw) : Sk := ⟨r.kd, r.u, begOf o r.af, endOf o r.be, none, false⟩
theorem rng_get {α : Type} {k i : Nat} {f : Nat → α} (h : i < k) : ((List.range k).map f)[i]? = some (f i) := by simp [h]
theorem rng_len {α : Type} {k : Nat} {f : Nat → α} : ((List.range k).map f).length = k := by simp
theorem rng_snoc {α : Type} {k : Nat} {f : Nat → α} : (List.range k).map f ++ [f k] = (List.range (k + 1)).map f := by rw [List.range_succ, List.map_append]; rfl
theorem call_len_loc {P : MP} {n l : Nat} {xs : List MV} {st : St} {Q : MV → St → Prop} (h : st[l]? = some (.list xs)) (q : Q (.int xs.length) st) : W2 ((run P (n + 1)).call (.bi .len) [.loc l] st) Q :=
  call_bi (by show Option.map _ (Option.map _ (listAt st l)) = _; rw [listAt_of h]; rfl) q
/-- the places that were taken, each with its taker -/
noncomputable def foundP (o : List UInt8) (k : Nat) (ss : Nat → Sk) : Nat → List (Nat × Nat)
  | 0 => []
  | a + 1 => match takerS o k ss a with
    | none => foundP o k ss a
    | some t => foundP o k ss a ++ [(a, t)]
noncomputable abbrev pairV (p : Nat × Nat) : MV := .tup [.int p.1, .int p.2]
theorem foundS_eq {o : List UInt8} {k : Nat} {ss : Nat → Sk} {a : Nat} : foundS o k ss a = (foundP o k ss a).map pairV := by
  induction a with
  | zero => rfl
  | succ a ih =>
    unfold foundS foundP
    cases takerS o k ss a with
    | none => exact ih
    | some t => simp [ih]
theorem foundP_lt {o : List UInt8} {k : Nat} {ss : Nat → Sk} {a : Nat} : ∀ p ∈ foundP o k ss a, p.2 < k ∧ p.1 < a := by
  induction a with
  | zero => intro p h; cases h
  | succ a ih =>
    intro p h
    unfold foundP at h
    split at h
    · have := ih p h; omega
    · rename_i t ht
      rcases List.mem_append.mp h with h | h
      · have := ih p h; omega
      · cases List.mem_singleton.mp h
        exact ⟨ffit_lt ht, by dsimp only; omega⟩
/-- how often a seeker took -/
noncomputable def countS (o : List UInt8) (k : Nat) (ss : Nat → Sk) (i : Nat) : Nat → Nat
  | 0 => 0
  | a + 1 => countS o k ss i a + if takerS o k ss a = some i then 1 else 0
theorem put_loc {l t : Nat} {xs : List MV} {v : MV} {st : St} {Q : St → Prop} (hl : st[l]? = some (.list xs)) (h : t < xs.length) (q : Q (st.set l (.list (xs.set t v)))) : ∃ st', setItemM (.loc l) (.int t) v st = some st' ∧ Q st' :=
  ⟨_, by show Option.bind (listAt st l) _ = _; rw [listAt_of hl]; exact if_pos ⟨Int.natCast_nonneg t, h⟩, q⟩
theorem rng_set {α : Type} {k t : Nat} {f g : Nat → α} {v : α} (hv : g t = v) (hg : ∀ j, j ≠ t → g j = f j) : ((List.range k).map f).set t v = (List.range k).map g := by
  apply List.ext_getElem?
  intro j
  by_cases e : t = j
  · subst e
    by_cases h : t < k
    · rw [List.getElem?_set_self (by rw [rng_len]; exact h), rng_get h, hv]
    · rw [List.getElem?_eq_none (by rw [List.length_set, rng_len]; omega), List.getElem?_eq_none (by rw [rng_len]; omega)]
  · rw [List.getElem?_set_ne e]
    by_cases h : j < k
    · rw [rng_get h, rng_get h, hg j (fun h => e h.symm)]
    · rw [List.getElem?_eq_none (by rw [rng_len]; omega), List.getElem?_eq_none (by rw [rng_len]; omega)]
theorem countP_take {α : Type} {p : α → Bool} {xs : List α} {i : Nat} {x : α} (h : xs[i]? = some x) : (xs.take (i + 1)).countP p = (xs.take i).countP p + if p x then 1 else 0 := by
  rw [List.take_add_one, h, Option.toList_some, List.countP_append, List.countP_singleton]
theorem countS_eq {o : List UInt8} {k : Nat} {ss : Nat → Sk} {i a : Nat} : countS o k ss i a = (foundP o k ss a).countP (fun p => p.2 == i) := by
  induction a with
  | zero => rfl
  | succ a ih =>
    unfold countS foundP
    cases takerS o k ss a with
    | none => simp [ih]
    | some t => simp [ih, List.countP_append, List.countP_cons]
theorem tallied_ok {o : List UInt8} {rw_ : Nat → Rw} {k l : Nat} {st : St} {n : Nat} {Q : MV → St → Prop} (hl : o.length ≤ 16) (hk : k ≤ 8) (hs : st[l]? = some (.list ((List.range k).map fun i => rowV (rw_ i))))
    (q : ∀ st' c, Frame (fun _ => False) st st' → st.length ≤ c → st'[c]? = some (.list ((List.range k).map fun i => .int (countS o k (fun i => skOf o (rw_ i)) i o.length))) → Q (.loc c) st') :
    W2 ((run lawP (n+180)).call (.fn 179) [.bytes o, .loc l] st) Q := by
  refine call_def (lc0 := (Lc.nil.set "octets" (.bytes o)).set "rows" (.loc l)) (by decide +kernel) (by decide +kernel) rfl rfl rfl ?_
  repeat (first | walk_at "m" | walk_at "e" | walk_at "s")
  refine comp_inv 130 k (fun i => .loc l i) (fun i => rowV (rw_ i)) (fun i acc _ st' => acc = skV st.length i ∧ Frame (fun _ => False) st st' ∧ SkAt st' st.length i (fun j => skOf o (rw_ j)) ∧ st'.length = st.length + i)
    (fun _ => rfl) (fun i acc lc st' hi h => loc_next (h.2.1.get hs (fun h => h)) (rng_get hi)) (fun acc lc st' h => loc_end (h.2.1.get hs fun h => h) (by rw [rng_len]; exact Nat.le_refl _)) ?_ ?_ k 0 _ _ _ _ (by omega) (by omega)
    ⟨rfl, Frame.rfl, fun i hi => absurd hi (Nat.not_lt_zero _), rfl⟩
  · intro i m acc lc st' hi ⟨h1, hF, hS, hL⟩
    refine ⟨by rw [h1, skV_len]; omega, ?_⟩
    repeat (first | walk_at "m" | walk_at "e" | walk_at "s")
    refine seeker_ok hl ?_
    refine ⟨?_, hF.trans Frame.add, ?_, by simp; omega⟩
    · rw [h1, hL]; exact rng_snoc
    · intro j hj
      by_cases e : j = i
      · subst e
        rw [← hL]
        exact app_new
      · exact app_get (hS j (by omega))
  · intro acc lc st' ⟨h1, hF, hS, hL⟩
    subst h1
    repeat (first | walk_at "m" | walk_at "e" | walk_at "s")
    refine call_len_loc (hF.get hs fun h => h) ?_
    refine ⟨k, by rw [rng_len], by omega, ?_⟩
    have hS1 : SkAt (st' ++ [MO.list (List.replicate k (MV.int 0))]) st.length k (fun j => skOf o (rw_ j)) := fun i hi => app_get (hS i hi)
    repeat (first | walk_at "m" | walk_at "e" | walk_at "s")
    refine fits_ok hl hk hS1 ?_
    intro st2 hF2 hf2 hS2
    rw [foundS_eq] at hf2
    repeat (first | walk_at "m" | walk_at "e" | walk_at "s")
    have hFlen : (foundP o k (fun j => skOf o (rw_ j)) o.length).length ≤ 16 := by
      have := @foundS_len o k (fun j => skOf o (rw_ j)) o.length
      rw [foundS_eq, List.length_map] at this
      omega
    have hFlt := @foundP_lt o k (fun j => skOf o (rw_ j)) o.length
    have hcnt := fun i => @countS_eq o k (fun j => skOf o (rw_ j)) i o.length
    generalize hFe : foundP o k (fun j => skOf o (rw_ j)) o.length = F at *
    have hval : ∀ i (hi : i < F.length), (F.map pairV)[i]? = some (pairV ((F[i]?).getD (0, 0))) := fun i hi => by
      rw [List.getElem?_map, List.getElem?_eq_getElem hi]; rfl
    have hlen2 : (st' ++ [MO.list (List.replicate k (MV.int 0))]).length = st'.length + 1 := by simp
    have hc2 : st2[st'.length]? = some (.list ((List.range k).map fun j => .int ((((F.take 0).countP (fun p => p.2 == j) : Nat)) : Int))) := by
      have := hF2.get (l := st'.length) app_new (by omega)
      rw [this]
      simp [List.map_const']
    refine loop_inv 30 F.length (fun i => .loc (st' ++ [MO.list (List.replicate k (MV.int 0))]).length i) (fun i => pairV ((F[i]?).getD (0, 0)))
      (fun i lc st3 => lc "counts" = some (.loc st'.length) ∧ Frame (fun l => l = st'.length) st2 st3 ∧ st3[st'.length]? = some (.list ((List.range k).map fun j => .int ((((F.take i).countP (fun p => p.2 == j) : Nat)) : Int))))
      (fun _ => rfl) (fun i lc st hi h => loc_next (h.2.1.get hf2 (by omega)) (hval i hi)) (fun lc st h => loc_end (h.2.1.get hf2 (by omega)) (by rw [List.length_map]; exact Nat.le_refl _)) ?_ ?_ F.length 0 _ _ _ (by omega) (by omega)
      ⟨by walk_at "lc", Frame.rfl, hc2⟩
    · intro i m lc st3 hi ⟨h1, hF3, hc3⟩
      have hFi : F[i]? = some F[i] := List.getElem?_eq_getElem hi
      have hlt := (hFlt F[i] (List.getElem_mem hi)).1
      rw [hFi, Option.getD_some]
      generalize F[i] = p at *
      repeat (first | walk_at "m" | walk_at "e" | walk_at "s")
      refine item_loc hc3 (rng_get hlt) ?_
      repeat (first | walk_at "m" | walk_at "e" | walk_at "s")
      refine put_loc hc3 (by rw [rng_len]; exact hlt) ?_
      repeat (first | walk_at "m" | walk_at "e" | walk_at "s")
      refine ⟨by walk_at "lc", hF3.trans (Frame.put rfl), ?_⟩
      rw [set_get hc3]
      refine congrArg (fun x => some (MO.list x)) (rng_set ?_ ?_)
      · rw [countP_take hFi]; simp
      · intro j hj
        rw [countP_take hFi]
        simp only [beq_iff_eq, if_neg (fun h : p.2 = j => hj h.symm), Nat.add_zero]
    · intro lc st3 ⟨h1, hF3, hc3⟩
      repeat (first | walk_at "m" | walk_at "e" | walk_at "s")
      refine q st3 st'.length ?_ (by omega) ?_
      · refine ⟨by have := hF2.1; have := hF3.1; omega, fun l hl' _ => ?_⟩
        rw [hF3.2 l (by have := hF2.1; omega) (by omega), hF2.2 l (by omega) (by omega), List.getElem?_append_left (by omega)]
        exact hF.2 l hl' fun h => h
      · rw [hc3, List.take_length]
        simp only [hcnt]
set_option maxHeartbeats 1000000
/-- a row of REPLACING -/
noncomputable abbrev rowB (r : Rw) (y : UInt8) : MV := .tup [.str r.kd.str, r.kd.w r.u, .bytes [y], optB r.be, optB r.af]
noncomputable def putAll (o : List UInt8) (y : Nat → UInt8) (F : List (Nat × Nat)) : List UInt8 := F.foldl (fun x p => x.set p.1 (y p.2)) o
theorem putAll_len {y : Nat → UInt8} : ∀ {F : List (Nat × Nat)} {o : List UInt8}, (putAll o y F).length = o.length
  | [], o => rfl
  | p :: F, o => by
    show (putAll (o.set p.1 (y p.2)) y F).length = _
    rw [putAll_len, List.length_set]
theorem putAll_take {y : Nat → UInt8} {F : List (Nat × Nat)} {o : List UInt8} {i : Nat} {p : Nat × Nat} (h : F[i]? = some p) : putAll o y (F.take (i + 1)) = (putAll o y (F.take i)).set p.1 (y p.2) := by
  unfold putAll
  rw [List.take_add_one, h, Option.toList_some, List.foldl_append]; rfl
theorem splice1 {o : List UInt8} {a : Nat} {u : UInt8} (h : a < o.length) : o.take a ++ [u] ++ o.drop (a + 1) = o.set a u := by
  rw [List.set_eq_take_append_cons_drop, if_pos h, List.append_assoc]; rfl
theorem bop_addb {x y : List UInt8} {st : St} {Q : MV → St → Prop} (h : x.length + y.length ≤ 1048576) (q : Q (.bytes (x ++ y)) st) : W2 (bop .Add (.bytes x) (.bytes y) st) Q :=
  ⟨_, _, by show (if _ then _ else _) = _; rw [if_pos h], q⟩
theorem replaced_ok {o : List UInt8} {rw_ : Nat → Rw} {y : Nat → UInt8} {k l : Nat} {st : St} {n : Nat} {Q : MV → St → Prop} (hl : o.length ≤ 16) (hk : k ≤ 8) (hs : st[l]? = some (.list ((List.range k).map fun i => rowB (rw_ i) (y i))))
    (q : ∀ st', Frame (fun _ => False) st st' → Q (.bytes (putAll o y (foundP o k (fun i => skOf o (rw_ i)) o.length))) st') :
    W2 ((run lawP (n+180)).call (.fn 184) [.bytes o, .loc l] st) Q := by
  refine call_def (lc0 := (Lc.nil.set "octets" (.bytes o)).set "rows" (.loc l)) (by decide +kernel) (by decide +kernel) rfl rfl rfl ?_
  repeat (first | walk_at "m" | walk_at "e" | walk_at "s")
  refine comp_inv 130 k (fun i => .loc l i) (fun i => rowB (rw_ i) (y i)) (fun i acc _ st' => acc = skV st.length i ∧ Frame (fun _ => False) st st' ∧ SkAt st' st.length i (fun j => skOf o (rw_ j)) ∧ st'.length = st.length + i)
    (fun _ => rfl) (fun i acc lc st' hi h => loc_next (h.2.1.get hs (fun h => h)) (rng_get hi)) (fun acc lc st' h => loc_end (h.2.1.get hs fun h => h) (by rw [rng_len]; exact Nat.le_refl _)) ?_ ?_ k 0 _ _ _ _ (by omega) (by omega)
    ⟨rfl, Frame.rfl, fun i hi => absurd hi (Nat.not_lt_zero _), rfl⟩
  · intro i m acc lc st' hi ⟨h1, hF, hS, hL⟩
    refine ⟨by rw [h1, skV_len]; omega, ?_⟩
    repeat (first | walk_at "m" | walk_at "e" | walk_at "s")
    refine seeker_ok hl ?_
    refine ⟨?_, hF.trans Frame.add, ?_, by simp; omega⟩
    · rw [h1, hL]; exact rng_snoc
    · intro j hj
      by_cases e : j = i
      · subst e
        rw [← hL]
        exact app_new
      · exact app_get (hS j (by omega))
  · intro acc lc st' ⟨h1, hF, hS, hL⟩
    subst h1
    repeat (first | walk_at "m" | walk_at "e" | walk_at "s")
    refine ⟨rfl, ?_⟩
    refine loop_inv 40 k (fun i => .enm i (.lst (skV st.length k) i)) (fun i => .tup [.int i, .ins 156 (st.length + i)]) (fun i lc st2 => lc "octets" = some (.bytes o) ∧ lc "rows" = some (.loc l) ∧ lc "seekers" = some (.lst (skV st.length k)) ∧ st2 = st')
      (fun _ => rfl) (fun i lc st hi _ => enm_next (lst_next (skV_get hi))) (fun _ _ _ => enm_end (lst_end (by rw [skV_len]; exact Nat.le_refl _))) ?_ ?_ k 0 _ _ _ (by omega) (by omega)
      ⟨by walk_at "lc", by walk_at "lc", by walk_at "lc", rfl⟩
    · intro i m lc st2 hi ⟨h1, h2, h3, h4⟩
      subst h4
      have hSi : st2[st.length + i]? = some (.inst (skOf o (rw_ i)).fs) := hS i hi
      repeat (first | walk_at "m" | walk_at "e" | walk_at "s")
      refine item_loc (hF.get hs fun h => h) (rng_get hi) ?_
      repeat (first | walk_at "m" | walk_at "e" | walk_at "s")
      refine width_ok hSi ?_
      repeat (first | walk_at "m" | walk_at "e" | walk_at "s")
      exact ⟨by walk_at "lc", by walk_at "lc", by walk_at "lc", rfl⟩
    · intro lc st2 ⟨h1, h2, h3, h4⟩
      subst h4
      repeat (first | walk_at "m" | walk_at "e" | walk_at "s")
      refine fits_ok hl hk hS ?_
      intro st3 hF3 hf3 hS3
      rw [foundS_eq] at hf3
      repeat (first | walk_at "m" | walk_at "e" | walk_at "s")
      have hFlen : (foundP o k (fun j => skOf o (rw_ j)) o.length).length ≤ 16 := by
        have := @foundS_len o k (fun j => skOf o (rw_ j)) o.length
        rw [foundS_eq, List.length_map] at this
        omega
      have hFlt := @foundP_lt o k (fun j => skOf o (rw_ j)) o.length
      generalize hFe : foundP o k (fun j => skOf o (rw_ j)) o.length = F at *
      have hval : ∀ i (hi : i < F.length), (F.map pairV)[i]? = some (pairV ((F[i]?).getD (0, 0))) := fun i hi => by
        rw [List.getElem?_map, List.getElem?_eq_getElem hi]; rfl
      refine loop_inv 50 F.length (fun i => .loc st2.length i) (fun i => pairV ((F[i]?).getD (0, 0)))
        (fun i lc st4 => lc "octets" = some (.bytes (putAll o y (F.take i))) ∧ lc "rows" = some (.loc l) ∧ lc "seekers" = some (.lst (skV st.length k)) ∧ st4 = st3)
        (fun _ => rfl) (fun i lc st hi h => by rw [h.2.2.2]; exact loc_next hf3 (hval i hi)) (fun lc st h => by rw [h.2.2.2]; exact loc_end hf3 (by rw [List.length_map]; exact Nat.le_refl _)) ?_ ?_ F.length 0 _ _ _ (by omega) (by omega)
        ⟨show lc "octets" = some (.bytes o) from h1, by walk_at "lc", by walk_at "lc", rfl⟩
      · intro i m lc st4 hi ⟨h1, h2, h3, h4⟩
        subst h4
        have hFi : F[i]? = some F[i] := List.getElem?_eq_getElem hi
        have hlt := hFlt F[i] (List.getElem_mem hi)
        have htk := @putAll_take y F o i _ hFi
        rw [hFi, Option.getD_some]
        generalize F[i] = p at *
        have hrow : st4[l]? = some (.list ((List.range k).map fun i => rowB (rw_ i) (y i))) := by
          have h0 := hF.get hs (fun h => h)
          exact hF3.get h0 fun h => by
            have := (List.getElem?_eq_some_iff.mp hs).1
            omega
        have hSi : st4[st.length + p.2]? = some (.inst (runS o k (fun j => skOf o (rw_ j)) o.length p.2).fs) := hS3 _ hlt.1
        have hlen := @putAll_len y (F.take i) o
        generalize putAll o y (F.take i) = x at *
        have hs1 : x.take p.1 ++ [y p.2] ++ x.drop (p.1 + 1) = x.set p.1 (y p.2) := splice1 (by omega)
        repeat (first | walk_at "m" | walk_at "e" | walk_at "s")
        refine item_loc hrow (rng_get hlt.1) ?_
        repeat (first | walk_at "m" | walk_at "e" | walk_at "s")
        refine bop_addb (by simp; omega) ?_
        repeat (first | walk_at "m" | walk_at "e" | walk_at "s")
        refine item_lst (skV_get hlt.1) ?_
        repeat (first | walk_at "m" | walk_at "e" | walk_at "s")
        refine width_ok hSi ?_
        repeat (first | walk_at "m" | walk_at "e" | walk_at "s")
        refine bop_addb (by simp; omega) ?_
        repeat (first | walk_at "m" | walk_at "e" | walk_at "s")
        rw [show (↑p.1 : Int).toNat = p.1 from Int.toNat_natCast _, show ((↑p.1 : Int) + 1).toNat = p.1 + 1 by omega, hs1, htk]
        exact ⟨by walk_at "lc", by walk_at "lc", by walk_at "lc", rfl⟩
      · intro lc st4 ⟨h1, h2, h3, h4⟩
        subst h4
        rw [List.take_length] at h1
        repeat (first | walk_at "m" | walk_at "e" | walk_at "s")
        refine q st4 ?_
        refine ⟨by have := hF3.1; have := hF.1; omega, fun l hl' _ => ?_⟩
        rw [hF3.2 l (by have := hF.1; omega) (by omega)]
        exact hF.2 l hl' fun h => h
set_option maxHeartbeats 1000000
noncomputable def convB (w g : List UInt8) (u : UInt8) : UInt8 := match w.findIdx? (· == u) with
  | some k => g.getD k 0
  | none => u
noncomputable def convAt (o w g : List UInt8) (b e i : Nat) : UInt8 := if b ≤ i ∧ i < e then convB w g (o.getD i 0) else o.getD i 0
noncomputable def convO (o w g : List UInt8) (b e : Nat) : List UInt8 := (List.range o.length).map (convAt o w g b e)
theorem ofNat_toNat (u : UInt8) : UInt8.ofNat ((u.toNat : Int)).toNat = u := by simp
theorem cmp_in {u : UInt8} {b : List UInt8} {st : St} {Q : Bool → Prop} (q : Q (b.contains u)) : ∃ r, cmp .In (.int u.toNat) (.bytes b) st = some r ∧ Q r := by
  refine ⟨_, ?_, q⟩
  have h := u.toNat_lt
  show (if _ then _ else _) = _
  rw [if_pos (by omega), ofNat_toNat]
theorem bytesOf_map {f : Nat → UInt8} : ∀ (l : List Nat), bytesOf (l.map fun i => .int (f i).toNat) = some (l.map f)
  | [] => rfl
  | i :: l => by
    have h := (f i).toNat_lt
    show (if (0 : Int) ≤ (f i).toNat ∧ ((f i).toNat : Int) < 256 then Option.map (UInt8.ofNat (((f i).toNat : Int)).toNat :: ·) (bytesOf (l.map fun i => .int (f i).toNat)) else Option.none) = _
    rw [bytesOf_map l, if_pos (by omega)]
    show some (UInt8.ofNat (((f i).toNat : Int)).toNat :: l.map f) = _
    rw [ofNat_toNat]; rfl
theorem call_bytes_loc {P : MP} {n l : Nat} {xs : List MV} {b : List UInt8} {st : St} {Q : MV → St → Prop} (h : st[l]? = some (.list xs)) (hb : bytesOf xs = some b) (q : Q (.bytes b) st) : W2 ((run P (n + 1)).call (.bi .bytes) [.loc l] st) Q :=
  call_bi (by show Option.bind (listAt st l) _ = _; rw [listAt_of h]; show Option.map _ (bytesOf xs) = _; rw [hb]; rfl) q
theorem contains_idx {w : List UInt8} {u : UInt8} : w.contains u = (w.findIdx? (· == u)).isSome := by
  rw [List.findIdx?_isSome, List.contains_eq_any_beq]
  simp only [Bool.beq_comm]
theorem item_bytes {b : List UInt8} {t : Nat} {u : UInt8} {st : St} {Q : MV → Prop} (h : b[t]? = some u) (q : Q (.int u.toNat)) : ∃ r, getItemM (.bytes b) (.int t) st = some r ∧ Q r :=
  ⟨_, by show (if (0 : Int) ≤ t then Option.map (fun (u : UInt8) => MV.int u.toNat) (b[(t : Int).toNat]?) else Option.none) = _; rw [if_pos (Int.natCast_nonneg t), Int.toNat_natCast, h]; rfl, q⟩
noncomputable abbrev coL (b e f : Nat) (w g : List UInt8) : List (Str × MV) := [("wanted", .bytes w), ("given", .bytes g), ("begin", .int b), ("end", .int e), ("found", .loc f)]
theorem converted_ok {o w g : List UInt8} {be af : Option UInt8} {st : St} {n : Nat} {Q : MV → St → Prop} (hl : o.length ≤ 16) (hw : w.length = g.length)
    (q : ∀ st', Frame (fun _ => False) st st' → Q (.bytes (convO o w g (begOf o af) (endOf o be))) st') :
    W2 ((run lawP (n+110)).call (.fn 191) [.bytes o, .bytes w, .bytes g, optB be, optB af] st) Q := by
  refine call_def (lc0 := ((((Lc.nil.set "octets" (.bytes o)).set "wanted" (.bytes w)).set "given" (.bytes g)).set "before" (optB be)).set "after" (optB af)) (by decide +kernel) (by decide +kernel) rfl rfl rfl ?_
  repeat (first | walk_at "m" | walk_at "e" | walk_at "s")
  refine begin_ok hl ?_
  repeat (first | walk_at "m" | walk_at "e" | walk_at "s")
  refine end_ok hl ?_
  repeat (first | walk_at "m" | walk_at "e" | walk_at "s")
  generalize begOf o af = b at *
  generalize endOf o be = e at *
  refine ⟨rfl, ?_⟩
  refine loop_inv 50 o.length (fun i => .enm i (.byt o i)) (fun i => .tup [.int i, .int (o.getD i 0).toNat]) (fun i lc st' => Has lc (coL b e st.length w g) ∧
    Frame (fun _ => False) st st' ∧ st'[st.length]? = some (.list ((List.range i).map fun j => .int (convAt o w g b e j).toNat)))
    (fun _ => rfl) (fun i lc st hi _ => enm_next (byt_next (by rw [List.getElem?_eq_getElem hi, List.getD_eq_getElem?_getD, List.getElem?_eq_getElem hi]; rfl))) (fun _ _ _ => enm_end (byt_end (Nat.le_refl _))) ?_ ?_ o.length 0 _ _ _ (by omega) (by omega)
    ⟨by walk_at "hasc", Frame.add, app_new⟩
  · intro i m lc st' hi ⟨h1, hF, hf⟩
    have hend : ∀ {v : UInt8} {st2 : St}, st2 = st'.set st.length (.list ((List.range i).map (fun j => MV.int (convAt o w g b e j).toNat) ++ [.int v.toNat])) → v = convAt o w g b e i →
        Frame (fun _ => False) st st2 ∧ st2[st.length]? = some (.list ((List.range (i + 1)).map fun j => .int (convAt o w g b e j).toNat)) := by
      intro v st2 h hv
      subst h hv
      refine ⟨⟨by rw [List.length_set]; exact hF.1, fun l hl hn => by rw [List.getElem?_set_ne (by omega)]; exact hF.2 l hl hn⟩, ?_⟩
      rw [set_get hf, ← rng_snoc]
    by_cases hbe : b ≤ i ∧ i < e
    case neg =>
      have hc : convAt o w g b e i = o.getD i 0 := if_neg hbe
      by_cases hb : b ≤ i
      · repeat (first | walk_at "m" | walk_at "e" | walk_at "s")
        refine meth_append hf ?_
        repeat (first | walk_at "m" | walk_at "e" | walk_at "s")
        refine ⟨_, _, rfl, hf, by rw [rng_len]; omega, ?_⟩
        repeat (first | walk_at "m" | walk_at "e" | walk_at "s")
        obtain ⟨a1, a2⟩ := hend rfl hc.symm
        exact ⟨by walk_at "has", a1, a2⟩
      · repeat (first | walk_at "m" | walk_at "e" | walk_at "s")
        refine meth_append hf ?_
        repeat (first | walk_at "m" | walk_at "e" | walk_at "s")
        refine ⟨_, _, rfl, hf, by rw [rng_len]; omega, ?_⟩
        repeat (first | walk_at "m" | walk_at "e" | walk_at "s")
        obtain ⟨a1, a2⟩ := hend rfl hc.symm
        exact ⟨by walk_at "has", a1, a2⟩
    case pos =>
      have hb := hbe.1
      have he := hbe.2
      have hc : convAt o w g b e i = convB w g (o.getD i 0) := if_pos hbe
      generalize o.getD i 0 = v at *
      unfold convB at hc
      cases hx : w.findIdx? (· == v) with
      | none =>
        rw [hx] at hc
        have hcn : w.contains v = false := by rw [contains_idx, hx]; rfl
        repeat (first | walk_at "m" | walk_at "e" | walk_at "s")
        refine cmp_in ?_
        rw [hcn]
        repeat (first | walk_at "m" | walk_at "e" | walk_at "s")
        refine meth_append hf ?_
        repeat (first | walk_at "m" | walk_at "e" | walk_at "s")
        refine ⟨_, _, rfl, hf, by rw [rng_len]; omega, ?_⟩
        repeat (first | walk_at "m" | walk_at "e" | walk_at "s")
        obtain ⟨a1, a2⟩ := hend rfl hc.symm
        exact ⟨by walk_at "has", a1, a2⟩
      | some j =>
        rw [hx] at hc
        have hcn : w.contains v = true := by rw [contains_idx, hx]; rfl
        have hj : g[j]? = some (g.getD j 0) := by
          obtain ⟨hj, _⟩ := List.findIdx?_eq_some_iff_getElem.mp hx
          rw [List.getD_eq_getElem?_getD, List.getElem?_eq_getElem (by omega)]; rfl
        have hv := v.toNat_lt
        repeat (first | walk_at "m" | walk_at "e" | walk_at "s")
        refine cmp_in ?_
        rw [hcn]
        repeat (first | walk_at "m" | walk_at "e" | walk_at "s")
        refine meth_index ?_
        repeat (first | walk_at "m" | walk_at "e" | walk_at "s")
        refine ⟨_, j, rfl, by omega, by omega, by rw [ofNat_toNat]; exact hx, ?_⟩
        repeat (first | walk_at "m" | walk_at "e" | walk_at "s")
        refine item_bytes hj ?_
        repeat (first | walk_at "m" | walk_at "e" | walk_at "s")
        refine meth_append hf ?_
        repeat (first | walk_at "m" | walk_at "e" | walk_at "s")
        refine ⟨_, _, rfl, hf, by rw [rng_len]; omega, ?_⟩
        repeat (first | walk_at "m" | walk_at "e" | walk_at "s")
        obtain ⟨a1, a2⟩ := hend rfl hc.symm
        exact ⟨by walk_at "has", a1, a2⟩
  · intro lc st' ⟨h1, hF, hf⟩
    repeat (first | walk_at "m" | walk_at "e" | walk_at "s")
    refine call_bytes_loc hf (bytesOf_map _) ?_
    exact q _ hF
open PySem.W
set_option maxHeartbeats 1000000
inductive Fg where | space | zero | quote
noncomputable def Fg.str : Fg → Str
  | .space => "SPACE" | .zero => "ZERO" | .quote => "QUOTE"
noncomputable def Fg.u : Fg → UInt8
  | .space => 32 | .zero => 48 | .quote => 34
/-- an operand -/
inductive Op where
  | text (b : List UInt8) | fig (f : Fg) | ref (x : Str)
noncomputable abbrev refV (x : Str) : MV := .tup [.str "ref", .str x, .tup [], .tup [], .none]
noncomputable def Op.v : Op → MV
  | .text b => .tup [.str "text", .bytes b]
  | .fig f => .tup [.str "figure", .str f.str]
  | .ref x => refV x
noncomputable def byt? : Option MV → Option (List UInt8)
  | some (.bytes b) => some b
  | _ => none
noncomputable def Op.get (es : List (Str × MV)) (n : Nat) : Op → Option (List UInt8)
  | .text b => some b
  | .fig f => some (List.replicate n f.u)
  | .ref x => byt? (es.lookup x)
theorem byt?_some {o : Option MV} {b : List UInt8} (h : byt? o = some b) : o = some (.bytes b) := by
  unfold byt? at h
  split at h
  · cases h; rfl
  · cases h
theorem rep_flat {u : UInt8} : ∀ n : Nat, (List.replicate n [u]).flatten = List.replicate n u
  | 0 => rfl
  | n + 1 => by rw [List.replicate_succ, List.flatten_cons, rep_flat n, List.replicate_succ]; rfl
theorem bop_mulb {u : UInt8} {n : Nat} {st : St} {Q : MV → St → Prop} (h : n ≤ 1048576) (q : Q (.bytes (List.replicate n u)) st) : W2 (bop .Mult (.bytes [u]) (.int n) st) Q := by
  refine ⟨_, _, ?_, q⟩
  show (if _ then _ else _) = _
  rw [if_pos (by simp; omega), Int.toNat_natCast, rep_flat]
theorem call_lam2 {P : MP} {n : Nat} {ps : Arguments} {body : Expr} {scope : Scope} {fre : List (Str × MV)} {args : List MV} {st : St} {Q : MV → St → Prop} {lc0 : Lc}
    (hl : (decide (ps.args.length = args.length) && scopeOk scope && plainParams ps && scope.names.all (fun p => p.2 != .cell) && ps.args.all (fun p => scope.names.lookup p.arg == some .local)) = true)
    (hb : bind0 (fun x => scope.names.lookup x == some .local) ((ps.args.map (·.arg)).zip args) Lc.nil = lc0)
    (h : W2 ((run P n).ev body ⟨scope, fun x => fre.lookup x, fun _ => false, false⟩ lc0 st) Q) :
    W2 ((run P (n + 1)).call (.lam ps body scope fre) args st) Q := call_lam hl (by rw [hb]; exact h)
theorem item_dict {l : Nat} {es : List (Str × MV)} {k : Str} {v : MV} {st : St} {Q : MV → Prop} (hl : st[l]? = some (.dict es)) (h : es.lookup k = some v) (q : Q v) : ∃ r, getItemM (.loc l) (.str k) st = some r ∧ Q r :=
  ⟨v, by show Option.bind (dictAt st l) _ = _; rw [dictAt_of hl]; exact h, q⟩
theorem fetch_ok {I : Nat} {es : List (Str × MV)} {op : Op} {k : Nat} {b : List UInt8} {st : St} {n : Nat} {Q : MV → St → Prop} (hI : st[I]? = some (.dict es)) (hb : op.get es k = some b) (hk : k ≤ 1000) (q : Q (.bytes b) st) :
    W2 ((run lawP (n+20)).call (.fn 259) [.loc I, op.v, .int k] st) Q := by
  refine call_def (lc0 := ((Lc.nil.set "items" (.loc I)).set "operand" op.v).set "size" (.int k)) (by decide +kernel) (by decide +kernel) rfl rfl rfl ?_
  cases op with
  | text x =>
    cases hb
    repeat (first | walk_at "m" | walk_at "e" | walk_at "s")
    exact q
  | fig f =>
    cases hb
    cases f
    all_goals
      repeat (first | walk_at "m" | walk_at "e" | walk_at "s")
      refine ⟨_, _, rfl, rfl, ?_⟩
      repeat (first | walk_at "m" | walk_at "e" | walk_at "s")
      refine bop_mulb (n := k) (by omega) ?_
      repeat (first | walk_at "m" | walk_at "e" | walk_at "s")
      exact q
  | ref x =>
    have hx := byt?_some (show byt? (es.lookup x) = some b from hb)
    repeat (first | walk_at "m" | walk_at "e" | walk_at "s")
    refine item_dict hI hx ?_
    repeat (first | walk_at "m" | walk_at "e" | walk_at "s")
    exact q
theorem put_ok {l : Nat} {es : List (Str × MV)} {x : Str} {v : MV} {st : St} {n : Nat} {Q : MV → St → Prop} (hl : st[l]? = some (.dict es)) (hx : (es.lookup x).isSome = true) (q : Q .none (st.set l (.dict (dput es x v)))) :
    W2 ((run lawP (n+20)).call (.fn 266) [.loc l, .str x, v] st) Q := by
  refine call_def (lc0 := ((Lc.nil.set "table" (.loc l)).set "name" (.str x)).set "worth" v) (by decide +kernel) (by decide +kernel) rfl rfl rfl ?_
  repeat (first | walk_at "m" | walk_at "e" | walk_at "s")
  refine ⟨_, show _ = some (st.set l (.dict (dput es x v))) by show Option.bind (dictAt st l) _ = _; rw [dictAt_of hl]; exact if_pos hx, ?_⟩
  repeat (first | walk_at "m" | walk_at "e" | walk_at "s")
  exact q

/-! the hands -/
noncomputable def lamArgs : List Expr := match (dat 273).body with
  | [.Return (some (.Call _ as _ _)) _] => as
  | _ => []
noncomputable def lamV (i : Nat) (fre : List (Str × MV)) : MV := match lamArgs[i]? with
  | some (.Lambda ps body scope _) => .lam ps body scope fre
  | _ => .none
noncomputable def handsFs (I N : Nat) : List (Str × MV) := [("fetch", lamV 0 [("items", .loc I)]), ("plant", lamV 1 [("items", .loc I)]), ("amount", lamV 2 [("numbers", .loc N)]), ("keep", lamV 3 [("numbers", .loc N)]), ("spot", lamV 4 []), ("bring", lamV 5 [("items", .loc I)]), ("room", lamV 6 [("items", .loc I)])]
theorem lamfetch_ok {I : Nat} {es : List (Str × MV)} {op : Op} {k : Nat} {b : List UInt8} {st : St} {n : Nat} {Q : MV → St → Prop} (hI : st[I]? = some (.dict es)) (hb : op.get es k = some b) (hk : k ≤ 1000) (q : Q (.bytes b) st) :
    W2 ((run lawP (n+30)).call (lamV 0 [("items", .loc I)]) [op.v, .int k] st) Q := by
  refine call_lam2 (lc0 := (Lc.nil.set "operand" op.v).set "size" (.int k)) (by rfl) rfl ?_
  repeat (first | walk_at "m" | walk_at "e" | walk_at "s")
  exact fetch_ok hI hb hk q
theorem lamplant_ok {I : Nat} {es : List (Str × MV)} {x : Str} {v : MV} {st : St} {n : Nat} {Q : MV → St → Prop} (hI : st[I]? = some (.dict es)) (hx : (es.lookup x).isSome = true) (q : Q .none (st.set I (.dict (dput es x v)))) :
    W2 ((run lawP (n+30)).call (lamV 1 [("items", .loc I)]) [refV x, v] st) Q := by
  refine call_lam2 (lc0 := (Lc.nil.set "ref" (refV x)).set "octets" v) (by rfl) rfl ?_
  repeat (first | walk_at "m" | walk_at "e" | walk_at "s")
  exact put_ok hI hx q
theorem lamamount_ok {N : Nat} {es : List (Str × MV)} {x : Str} {v : MV} {st : St} {n : Nat} {Q : MV → St → Prop} (hN : st[N]? = some (.dict es)) (hx : es.lookup x = some v) (q : Q v st) :
    W2 ((run lawP (n+30)).call (lamV 2 [("numbers", .loc N)]) [refV x] st) Q := by
  refine call_lam2 (lc0 := Lc.nil.set "ref" (refV x)) (by rfl) rfl ?_
  repeat (first | walk_at "m" | walk_at "e" | walk_at "s")
  refine item_dict hN hx ?_
  exact q
theorem lamkeep_ok {N : Nat} {es : List (Str × MV)} {x : Str} {v : MV} {st : St} {n : Nat} {Q : MV → St → Prop} (hN : st[N]? = some (.dict es)) (hx : (es.lookup x).isSome = true) (q : Q .none (st.set N (.dict (dput es x v)))) :
    W2 ((run lawP (n+30)).call (lamV 3 [("numbers", .loc N)]) [refV x, v] st) Q := by
  refine call_lam2 (lc0 := (Lc.nil.set "ref" (refV x)).set "number" v) (by rfl) rfl ?_
  repeat (first | walk_at "m" | walk_at "e" | walk_at "s")
  exact put_ok hN hx q
theorem handsinit_ok {a b c d e f g : MV} {l : Nat} {st : St} {n : Nat} {Q : MV → St → Prop} (h : st[l]? = some (.inst []))
    (q : Q .none (st.set l (.inst [("fetch", a), ("plant", b), ("amount", c), ("keep", d), ("spot", e), ("bring", f), ("room", g)]))) :
    W2 ((run lawP (n+20)).call (.fn 83) [.ins 86 l, a, b, c, d, e, f, g] st) Q := by
  refine call_def (lc0 := (((((((Lc.nil.set "self" (.ins 86 l)).set "fetch" a).set "plant" b).set "amount" c).set "keep" d).set "spot" e).set "bring" f).set "room" g) (by decide +kernel) (by decide +kernel) rfl rfl rfl ?_
  repeat (first | walk_at "m" | walk_at "e" | walk_at "s")
  simp only [List.set_set]
  exact q
theorem ev_lam {P : MP} {n : Nat} {ps : Arguments} {body : Expr} {scope : Scope} {p : Pos} {me : ME} {lc : Lc} {st : St} {v : MV} {Q : MV → St → Prop} (h : evF P (run P n) (.Lambda ps body scope p) me lc st = some (v, st)) (q : Q v st) :
    W2 ((run P (n + 1)).ev (.Lambda ps body scope p) me lc st) Q := ⟨v, st, h, q⟩
theorem call_defL {a : Nat} {args : List MV} {n : Nat} {st : St} {Q : MV → St → Prop} {lcf lc0 : Lc} (hd : (defsL.lookup a).isSome = true) (hm : (dat a).lam = true) (hl : (dat a).params.args.length = args.length)
    (hf : bind0 (fun x => (dat a).scope.names.lookup x == some .cell) (((dat a).params.args.map (·.arg)).zip args) Lc.nil = lcf)
    (hb : bind0 (fun x => (dat a).scope.names.lookup x == some .local || (!true && (dat a).scope.names.lookup x == some .cell)) (((dat a).params.args.map (·.arg)).zip args) Lc.nil = lc0)
    {s : Stmt} {r : List Stmt} (hbd : (dat a).body = s :: r) (h : W3 (exs (run lawP n) (s :: r) ⟨(dat a).scope, lcf, fun _ => false, true⟩ lc0 st) (retX Q)) : W2 ((run lawP (n + 1)).call (.fn a) args st) Q := by
  refine call_fn (defs_dat hd) hl ?_
  rw [hm, hb, hbd, if_pos rfl, hf]
  exact h
theorem hands_ok {I N : Nat} {st : St} {n : Nat} {Q : MV → St → Prop} (q : Q (.ins 86 st.length) (st ++ [.inst (handsFs I N)])) : W2 ((run lawP (n+40)).call (.fn 273) [.loc I, .loc N] st) Q := by
  refine call_defL (lcf := (Lc.nil.set "items" (.loc I)).set "numbers" (.loc N)) (lc0 := Lc.nil) (by decide +kernel) (by decide +kernel) rfl rfl rfl rfl ?_
  repeat (first | walk_at "m" | walk_at "e" | walk_at "s")
  refine ev_lam (v := lamV 0 [("items", .loc I)]) (by kernel_rfl) ?_
  repeat (first | walk_at "m" | walk_at "e" | walk_at "s")
  refine ev_lam (v := lamV 1 [("items", .loc I)]) (by kernel_rfl) ?_
  repeat (first | walk_at "m" | walk_at "e" | walk_at "s")
  refine ev_lam (v := lamV 2 [("numbers", .loc N)]) (by kernel_rfl) ?_
  repeat (first | walk_at "m" | walk_at "e" | walk_at "s")
  refine ev_lam (v := lamV 3 [("numbers", .loc N)]) (by kernel_rfl) ?_
  repeat (first | walk_at "m" | walk_at "e" | walk_at "s")
  refine ev_lam (v := lamV 4 []) (by kernel_rfl) ?_
  repeat (first | walk_at "m" | walk_at "e" | walk_at "s")
  refine ev_lam (v := lamV 5 [("items", .loc I)]) (by kernel_rfl) ?_
  repeat (first | walk_at "m" | walk_at "e" | walk_at "s")
  refine ev_lam (v := lamV 6 [("items", .loc I)]) (by kernel_rfl) ?_
  repeat (first | walk_at "m" | walk_at "e" | walk_at "s")
  refine call_cls rfl ?_
  refine handsinit_ok app_new ?_
  rw [set_app_new]
  refine ⟨rfl, ?_⟩
  repeat (first | walk_at "m" | walk_at "e" | walk_at "s")
  exact q
theorem lone_ok {h I N : Nat} {es : List (Str × MV)} {op : Op} {b : List UInt8} {st : St} {n : Nat} {Q : MV → St → Prop} (hh : st[h]? = some (.inst (handsFs I N))) (hI : st[I]? = some (.dict es)) (hb : op.get es 1 = some b) (q : Q (.bytes b) st) :
    W2 ((run lawP (n+40)).call (.fn 97) [op.v, .ins 86 h] st) Q := by
  refine call_def (lc0 := (Lc.nil.set "operand" op.v).set "hands" (.ins 86 h)) (by decide +kernel) (by decide +kernel) rfl rfl rfl ?_
  repeat (first | walk_at "m" | walk_at "e" | walk_at "s")
  exact lamfetch_ok (k := 1) hI hb (by omega) q
theorem soughtnone_ok {h : Nat} {st : St} {n : Nat} {Q : MV → St → Prop} (q : Q .none st) : W2 ((run lawP (n+50)).call (.fn 198) [.none, .ins 86 h] st) Q := by
  refine call_def (lc0 := (Lc.nil.set "operand" .none).set "hands" (.ins 86 h)) (by decide +kernel) (by decide +kernel) rfl rfl rfl ?_
  repeat (first | walk_at "m" | walk_at "e" | walk_at "s")
  exact q
theorem op_isNone {op : Op} : isNoneM op.v = false := by cases op <;> rfl
theorem cmp_none {v : MV} {b : Bool} {st : St} {Q : Bool → Prop} (h : isNoneM v = b) (q : Q b) : ∃ r, cmp .Is v .none st = some r ∧ Q r := ⟨_, rfl, by rw [h]; exact q⟩
theorem sought_ok {h I N : Nat} {es : List (Str × MV)} {op : Op} {b : List UInt8} {st : St} {n : Nat} {Q : MV → St → Prop} (hh : st[h]? = some (.inst (handsFs I N))) (hI : st[I]? = some (.dict es)) (hb : op.get es 1 = some b) (q : Q (.bytes b) st) :
    W2 ((run lawP (n+50)).call (.fn 198) [op.v, .ins 86 h] st) Q := by
  refine call_def (lc0 := (Lc.nil.set "operand" op.v).set "hands" (.ins 86 h)) (by decide +kernel) (by decide +kernel) rfl rfl rfl ?_
  repeat (first | walk_at "m" | ((with_reducible apply cmp_none); · exact op_isNone) | walk_at "e" | walk_at "s")
  refine lone_ok hh hI hb ?_
  exact q
theorem putin_ok {h I N : Nat} {es : List (Str × MV)} {op : Op} {w : Option (List UInt8)} {b : List UInt8} {st : St} {n : Nat} {Q : MV → St → Prop} (hh : st[h]? = some (.inst (handsFs I N))) (hI : st[I]? = some (.dict es))
    (hw : (w.getD [0]).length ≤ 1000) (hb : op.get es (w.getD [0]).length = some b) (q : Q (.bytes b) st) :
    W2 ((run lawP (n+50)).call (.fn 205) [op.v, (match w with | none => .none | some w => .bytes w), .ins 86 h] st) Q := by
  refine call_def (lc0 := ((Lc.nil.set "operand" op.v).set "wanted" (match w with | none => .none | some w => .bytes w)).set "hands" (.ins 86 h)) (by decide +kernel) (by decide +kernel) rfl rfl rfl ?_
  induction w using Option.casesOn with
  | none =>
    repeat (first | walk_at "m" | walk_at "e" | walk_at "s")
    exact lamfetch_ok (k := 1) hI hb (by omega) q
  | some w =>
    repeat (first | walk_at "m" | walk_at "e" | walk_at "s")
    exact lamfetch_ok hI hb hw q
set_option maxHeartbeats 1000000
noncomputable def optOp : Option Op → MV
  | none => .none
  | some o => o.v
/-- an operand that fetches one octet, or none -/
noncomputable def OneOf (es : List (Str × MV)) : Option Op → Option UInt8 → Prop
  | none, none => True
  | some o, some u => o.get es 1 = some [u]
  | _, _ => False
/-- a row's kind and operand -/
noncomputable def KOf (es : List (Str × MV)) (o : Option Op) : Kd → UInt8 → Prop
  | .chars, _ => o = none
  | _, u => ∃ p, o = some p ∧ p.get es 1 = some [u]
theorem sought1_ok {h I N : Nat} {es : List (Str × MV)} {o : Option Op} {u : Option UInt8} {st : St} {n : Nat} {Q : MV → St → Prop} (hh : st[h]? = some (.inst (handsFs I N))) (hI : st[I]? = some (.dict es)) (hb : OneOf es o u) (q : Q (optB u) st) :
    W2 ((run lawP (n+50)).call (.fn 198) [optOp o, .ins 86 h] st) Q := by
  induction o using Option.casesOn with
  | none => induction u using Option.casesOn with
    | none => exact soughtnone_ok q
    | some u => exact hb.elim
  | some o => induction u using Option.casesOn with
    | none => exact hb.elim
    | some u => exact sought_ok hh hI hb q
theorem soughtk_ok {h I N : Nat} {es : List (Str × MV)} {o : Option Op} {kd : Kd} {u : UInt8} {st : St} {n : Nat} {Q : MV → St → Prop} (hh : st[h]? = some (.inst (handsFs I N))) (hI : st[I]? = some (.dict es)) (hb : KOf es o kd u) (q : Q (kd.w u) st) :
    W2 ((run lawP (n+50)).call (.fn 198) [optOp o, .ins 86 h] st) Q := by
  induction kd using Kd.casesOn with
  | chars =>
    cases (show o = none from hb)
    exact soughtnone_ok q
  | all => obtain ⟨p, rfl, hp⟩ := hb; exact sought_ok hh hI hp q
  | lead => obtain ⟨p, rfl, hp⟩ := hb; exact sought_ok hh hI hp q
  | first => obtain ⟨p, rfl, hp⟩ := hb; exact sought_ok hh hI hp q
/-- a row as it is written -/
structure TR where
  x : Str
  kd : Kd
  op : Option Op
  be : Option Op
  af : Option Op
noncomputable abbrev TR.v (t : TR) : MV := .tup [refV t.x, .str t.kd.str, optOp t.op, optOp t.be, optOp t.af]
structure RowOk (es : List (Str × MV)) (t : TR) (r : Rw) : Prop where
  kd : r.kd = t.kd
  op : KOf es t.op r.kd r.u
  be : OneOf es t.be r.be
  af : OneOf es t.af r.af
/-! dicts of ints -/
noncomputable def getI (ns : List (Str × MV)) (x : Str) : Int := match ns.lookup x with
  | some (.int i) => i
  | _ => 0
noncomputable def IsNum (ns : List (Str × MV)) (x : Str) : Prop := ns.lookup x = some (.int (getI ns x))
noncomputable def bump (ns : List (Str × MV)) (x : Str) (c : Int) : List (Str × MV) := dput ns x (.int (getI ns x + c))
noncomputable def bumps (ns : List (Str × MV)) (xs : Nat → Str) (cs : Nat → Int) : Nat → List (Str × MV)
  | 0 => ns
  | i + 1 => bump (bumps ns xs cs i) (xs i) (cs i)
theorem lookup_dput {x y : Str} {v : MV} : ∀ {ns : List (Str × MV)}, (dput ns x v).lookup y = if y = x then some v else ns.lookup y
  | [] => by
    show List.lookup y [(x, v)] = _
    rw [List.lookup_cons, List.lookup_nil]
    by_cases h : y = x
    · rw [if_pos h, beq_iff_eq.mpr h]
    · rw [if_neg h, beq_eq_false_iff_ne.mpr h]
  | (k, w) :: ns => by
    unfold dput
    by_cases hk : k = x
    · rw [if_pos hk, List.lookup_cons, List.lookup_cons]
      subst hk
      by_cases h : y = k
      · rw [if_pos h, beq_iff_eq.mpr h]
      · rw [if_neg h, beq_eq_false_iff_ne.mpr h]
    · rw [if_neg hk, List.lookup_cons, List.lookup_cons, lookup_dput]
      by_cases h : y = k
      · subst h
        simp [hk]
      · rw [beq_eq_false_iff_ne.mpr h]
theorem isNum_bump {ns : List (Str × MV)} {x y : Str} {c : Int} (h : IsNum ns y) : IsNum (bump ns x c) y := by
  unfold IsNum getI bump at *
  rw [lookup_dput]
  by_cases e : y = x
  · rw [if_pos e]
  · rw [if_neg e]; exact h
theorem isNum_bumps {ns : List (Str × MV)} {xs : Nat → Str} {cs : Nat → Int} {y : Str} (h : IsNum ns y) : ∀ k, IsNum (bumps ns xs cs k) y
  | 0 => h
  | k + 1 => isNum_bump (isNum_bumps h k)
theorem item_num {ns : List (Str × MV)} {x : Str} (h : IsNum ns x) : ns.lookup x = some (.int (getI ns x)) := h
theorem call_tup_of {P : MP} {n l : Nat} {xs : List MV} {st : St} {Q : MV → St → Prop} (h : st[l]? = some (.list xs)) (q : Q (.tup xs) st) : W2 ((run P (n + 1)).call (.bi .tuple) [.loc l] st) Q :=
  call_bi (by show Option.map _ (listAt st l) = _; rw [listAt_of h]; rfl) q

theorem tally_ok {h I N : Nat} {es ns : List (Str × MV)} {x : Str} {o : List UInt8} {t : Nat → TR} {r : Nat → Rw} {k : Nat} {st : St} {n : Nat} {Q : MV → St → Prop}
    (hh : st[h]? = some (.inst (handsFs I N))) (hI : st[I]? = some (.dict es)) (hN : st[N]? = some (.dict ns)) (hnh : h ≠ N) (hx : es.lookup x = some (.bytes o)) (hl : o.length ≤ 16) (hk : k ≤ 8)
    (hr : ∀ i < k, RowOk es (t i) (r i)) (hn : ∀ i < k, IsNum ns (t i).x)
    (q : ∀ st', Frame (fun l => l = N) st st' → st'[N]? = some (.dict (bumps ns (fun i => (t i).x) (fun i => countS o k (fun i => skOf o (r i)) i o.length) k)) → Q (.str "") st') :
    W2 ((run lawP (n+200)).call (.fn 212) [.tup [.str "tally", refV x, .tup ((List.range k).map fun i => (t i).v)], .ins 86 h] st) Q := by
  refine call_def (lc0 := (Lc.nil.set "statement" (.tup [.str "tally", refV x, .tup ((List.range k).map fun i => (t i).v)])).set "hands" (.ins 86 h)) (by decide +kernel) (by decide +kernel) rfl rfl rfl ?_
  repeat (first | walk_at "m" | walk_at "e" | walk_at "s")
  refine loop_inv 75 k (fun i => .tup ((List.range k).map fun i => (t i).v) i) (fun i => (t i).v) (fun i lc st' => lc "statement" = some (.tup [.str "tally", refV x, .tup ((List.range k).map fun i => (t i).v)]) ∧ lc "hands" = some (.ins 86 h) ∧ lc "rows" = some (.loc st.length) ∧
    Frame (fun _ => False) st st' ∧ st'[st.length]? = some (.list ((List.range i).map fun i => rowV (r i))))
    (fun _ => rfl) (fun i lc st hi _ => tup_next (rng_get hi)) (fun _ _ _ => tup_end (by rw [rng_len]; exact Nat.le_refl _)) ?_ ?_ k 0 _ _ _ (by omega) (by omega)
    ⟨by walk_at "lc", by walk_at "lc", Lc.here, Frame.add, app_new⟩
  · intro i m lc st' hi ⟨h1, h2, h3, hF, hf⟩
    have hh' := hF.get hh fun h => h
    have hI' := hF.get hI fun h => h
    have R := hr i hi
    repeat (first | walk_at "m" | walk_at "e" | walk_at "s")
    refine meth_append hf ?_
    repeat (first | walk_at "m" | walk_at "e" | walk_at "s")
    refine soughtk_ok hh' hI' R.op ?_
    repeat (first | walk_at "m" | walk_at "e" | walk_at "s")
    refine sought1_ok hh' hI' R.be ?_
    repeat (first | walk_at "m" | walk_at "e" | walk_at "s")
    refine sought1_ok hh' hI' R.af ?_
    repeat (first | walk_at "m" | walk_at "e" | walk_at "s")
    refine ⟨_, _, rfl, hf, by rw [rng_len]; omega, ?_⟩
    repeat (first | walk_at "m" | walk_at "e" | walk_at "s")
    refine ⟨by walk_at "lc", by walk_at "lc", by walk_at "lc", ⟨by rw [List.length_set]; exact hF.1, fun l hl hn => by rw [List.getElem?_set_ne (by omega)]; exact hF.2 l hl hn⟩, ?_⟩
    rw [set_get hf, ← rng_snoc, ← R.kd]
  · intro lc st' ⟨h1, h2, h3, hF, hf⟩
    have hh' := hF.get hh fun h => h
    have hI' := hF.get hI fun h => h
    have hN' := hF.get hN fun h => h
    have hNl := (List.getElem?_eq_some_iff.mp hN).1
    repeat (first | walk_at "m" | walk_at "e" | walk_at "s")
    refine lone_ok (op := .ref x) hh' hI' (by show byt? _ = _; rw [hx]; rfl) ?_
    repeat (first | walk_at "m" | walk_at "e" | walk_at "s")
    refine tallied_ok hl hk hf ?_
    intro st2 c hF2 hc hcv
    repeat (first | walk_at "m" | walk_at "e" | walk_at "s")
    refine ⟨rfl, ?_⟩
    have hh2 := hF2.get hh' fun h => h
    have hN2 := hF2.get hN' fun h => h
    generalize hcs : (fun i => ((countS o k (fun i => skOf o (r i)) i o.length : Nat) : Int)) = cs at *
    replace hcv : st2[c]? = some (.list ((List.range k).map fun i => .int (cs i))) := by rw [hcv, ← hcs]
    refine loop_inv 55 k (fun i => .enm i (.tup ((List.range k).map fun i => (t i).v) i)) (fun i => .tup [.int i, (t i).v]) (fun i lc st3 => lc "hands" = some (.ins 86 h) ∧ lc "counts" = some (.loc c) ∧
      Frame (fun l => l = N) st2 st3 ∧ st3[N]? = some (.dict (bumps ns (fun i => (t i).x) cs i)))
      (fun _ => rfl) (fun i lc st hi _ => enm_next (tup_next (rng_get hi))) (fun _ _ _ => enm_end (tup_end (by rw [rng_len]; exact Nat.le_refl _))) ?_ ?_ k 0 _ _ _ (by omega) (by omega)
      ⟨by walk_at "lc", by walk_at "lc", Frame.rfl, hN2⟩
    · intro i m lc st3 hi ⟨h1, h2, hF3, hN3⟩
      have hh3 := hF3.get hh2 hnh
      have hc3 := hF3.get hcv (by have := hF.1; omega)
      have hnum := isNum_bumps (cs := cs) (xs := fun i => (t i).x) (hn i hi) i
      repeat (first | walk_at "m" | walk_at "e" | walk_at "s")
      refine lamamount_ok hN3 hnum ?_
      repeat (first | walk_at "m" | walk_at "e" | walk_at "s")
      refine item_loc hc3 (rng_get hi) ?_
      repeat (first | walk_at "m" | walk_at "e" | walk_at "s")
      refine lamkeep_ok hN3 (by rw [hnum]; rfl) ?_
      repeat (first | walk_at "m" | walk_at "e" | walk_at "s")
      exact ⟨by walk_at "lc", by walk_at "lc", hF3.trans (Frame.put rfl), set_get hN3⟩
    · intro lc st3 ⟨h1, h2, hF3, hN3⟩
      repeat (first | walk_at "m" | walk_at "e" | walk_at "s")
      refine q st3 ?_ hN3
      refine Frame.trans (Frame.mono hF fun l _ h => h.elim) (Frame.trans (Frame.mono hF2 fun l _ h => h.elim) hF3)
set_option maxHeartbeats 1000000
/-- a row of REPLACING as it is written -/
structure TB where
  kd : Kd
  op : Option Op
  y : Op
  be : Option Op
  af : Option Op
noncomputable abbrev TB.v (t : TB) : MV := .tup [.str t.kd.str, optOp t.op, t.y.v, optOp t.be, optOp t.af]
structure RowBOk (es : List (Str × MV)) (t : TB) (r : Rw) (y : UInt8) : Prop where
  kd : r.kd = t.kd
  op : KOf es t.op r.kd r.u
  y : t.y.get es 1 = some [y]
  be : OneOf es t.be r.be
  af : OneOf es t.af r.af
theorem putin1_ok {h I N : Nat} {es : List (Str × MV)} {op : Op} {kd : Kd} {u y : UInt8} {st : St} {n : Nat} {Q : MV → St → Prop} (hh : st[h]? = some (.inst (handsFs I N))) (hI : st[I]? = some (.dict es))
    (hb : op.get es 1 = some [y]) (q : Q (.bytes [y]) st) : W2 ((run lawP (n+50)).call (.fn 205) [op.v, kd.w u, .ins 86 h] st) Q := by
  induction kd using Kd.casesOn with
  | chars => exact putin_ok (w := none) hh hI (by simp) hb q
  | all => exact putin_ok (w := some [u]) hh hI (by simp) hb q
  | lead => exact putin_ok (w := some [u]) hh hI (by simp) hb q
  | first => exact putin_ok (w := some [u]) hh hI (by simp) hb q

theorem replace_ok {h I N : Nat} {es : List (Str × MV)} {x : Str} {o : List UInt8} {t : Nat → TB} {r : Nat → Rw} {y : Nat → UInt8} {k : Nat} {st : St} {n : Nat} {Q : MV → St → Prop}
    (hh : st[h]? = some (.inst (handsFs I N))) (hI : st[I]? = some (.dict es)) (hnh : h ≠ I) (hx : es.lookup x = some (.bytes o)) (hl : o.length ≤ 16) (hk : k ≤ 8)
    (hr : ∀ i < k, RowBOk es (t i) (r i) (y i))
    (q : ∀ st', Frame (fun l => l = I) st st' → st'[I]? = some (.dict (dput es x (.bytes (putAll o y (foundP o k (fun i => skOf o (r i)) o.length))))) → Q (.str "") st') :
    W2 ((run lawP (n+200)).call (.fn 219) [.tup [.str "replace", refV x, .tup ((List.range k).map fun i => (t i).v)], .ins 86 h] st) Q := by
  refine call_def (lc0 := (Lc.nil.set "statement" (.tup [.str "replace", refV x, .tup ((List.range k).map fun i => (t i).v)])).set "hands" (.ins 86 h)) (by decide +kernel) (by decide +kernel) rfl rfl rfl ?_
  repeat (first | walk_at "m" | walk_at "e" | walk_at "s")
  refine loop_inv 75 k (fun i => .tup ((List.range k).map fun i => (t i).v) i) (fun i => (t i).v) (fun i lc st' => lc "statement" = some (.tup [.str "replace", refV x, .tup ((List.range k).map fun i => (t i).v)]) ∧ lc "hands" = some (.ins 86 h) ∧ lc "rows" = some (.loc st.length) ∧
    Frame (fun _ => False) st st' ∧ st'[st.length]? = some (.list ((List.range i).map fun i => rowB (r i) (y i))))
    (fun _ => rfl) (fun i lc st hi _ => tup_next (rng_get hi)) (fun _ _ _ => tup_end (by rw [rng_len]; exact Nat.le_refl _)) ?_ ?_ k 0 _ _ _ (by omega) (by omega)
    ⟨by walk_at "lc", by walk_at "lc", Lc.here, Frame.add, app_new⟩
  · intro i m lc st' hi ⟨h1, h2, h3, hF, hf⟩
    have hh' := hF.get hh fun h => h
    have hI' := hF.get hI fun h => h
    have R := hr i hi
    repeat (first | walk_at "m" | walk_at "e" | walk_at "s")
    refine soughtk_ok hh' hI' R.op ?_
    repeat (first | walk_at "m" | walk_at "e" | walk_at "s")
    refine meth_append hf ?_
    repeat (first | walk_at "m" | walk_at "e" | walk_at "s")
    refine putin1_ok hh' hI' R.y ?_
    repeat (first | walk_at "m" | walk_at "e" | walk_at "s")
    refine sought1_ok hh' hI' R.be ?_
    repeat (first | walk_at "m" | walk_at "e" | walk_at "s")
    refine sought1_ok hh' hI' R.af ?_
    repeat (first | walk_at "m" | walk_at "e" | walk_at "s")
    refine ⟨_, _, rfl, hf, by rw [rng_len]; omega, ?_⟩
    repeat (first | walk_at "m" | walk_at "e" | walk_at "s")
    refine ⟨by walk_at "lc", by walk_at "lc", by walk_at "lc", ⟨by rw [List.length_set]; exact hF.1, fun l hl hn => by rw [List.getElem?_set_ne (by omega)]; exact hF.2 l hl hn⟩, ?_⟩
    rw [set_get hf, ← rng_snoc, ← R.kd]
  · intro lc st' ⟨h1, h2, h3, hF, hf⟩
    have hh' := hF.get hh fun h => h
    have hI' := hF.get hI fun h => h
    repeat (first | walk_at "m" | walk_at "e" | walk_at "s")
    refine lone_ok (op := .ref x) hh' hI' (by show byt? _ = _; rw [hx]; rfl) ?_
    repeat (first | walk_at "m" | walk_at "e" | walk_at "s")
    refine replaced_ok hl hk hf ?_
    intro st2 hF2
    have hh2 := hF2.get hh' fun h => h
    have hI2 := hF2.get hI' fun h => h
    repeat (first | walk_at "m" | walk_at "e" | walk_at "s")
    refine lamplant_ok hI2 (by rw [hx]; rfl) ?_
    repeat (first | walk_at "m" | walk_at "e" | walk_at "s")
    refine q _ ?_ (set_get hI2)
    exact Frame.trans (Frame.mono hF fun l _ h => h.elim) (Frame.trans (Frame.mono hF2 fun l _ h => h.elim) (Frame.put rfl))

theorem convert_ok {h I N : Nat} {es : List (Str × MV)} {x : Str} {o w g : List UInt8} {ow og : Op} {obe oaf : Option Op} {be af : Option UInt8} {st : St} {n : Nat} {Q : MV → St → Prop}
    (hh : st[h]? = some (.inst (handsFs I N))) (hI : st[I]? = some (.dict es)) (hx : es.lookup x = some (.bytes o)) (hl : o.length ≤ 16)
    (hw : ow.get es 1 = some w) (hwl : w.length ≤ 100) (hg : og.get es w.length = some g) (hgl : w.length = g.length) (hbe : OneOf es obe be) (haf : OneOf es oaf af)
    (q : ∀ st', Frame (fun l => l = I) st st' → st'[I]? = some (.dict (dput es x (.bytes (convO o w g (begOf o af) (endOf o be))))) → Q (.str "") st') :
    W2 ((run lawP (n+200)).call (.fn 226) [.tup [.str "convert", refV x, ow.v, og.v, optOp obe, optOp oaf], .ins 86 h] st) Q := by
  refine call_def (lc0 := (Lc.nil.set "statement" (.tup [.str "convert", refV x, ow.v, og.v, optOp obe, optOp oaf])).set "hands" (.ins 86 h)) (by decide +kernel) (by decide +kernel) rfl rfl rfl ?_
  repeat (first | walk_at "m" | walk_at "e" | walk_at "s")
  refine sought_ok hh hI hw ?_
  repeat (first | walk_at "m" | walk_at "e" | walk_at "s")
  refine putin_ok (w := some w) hh hI (by show w.length ≤ _; omega) hg ?_
  repeat (first | walk_at "m" | walk_at "e" | walk_at "s")
  refine sought1_ok hh hI hbe ?_
  repeat (first | walk_at "m" | walk_at "e" | walk_at "s")
  refine sought1_ok hh hI haf ?_
  repeat (first | walk_at "m" | walk_at "e" | walk_at "s")
  refine lone_ok (op := .ref x) hh hI (by show byt? _ = _; rw [hx]; rfl) ?_
  repeat (first | walk_at "m" | walk_at "e" | walk_at "s")
  refine converted_ok hl hgl ?_
  intro st2 hF2
  have hI2 := hF2.get hI fun h => h
  repeat (first | walk_at "m" | walk_at "e" | walk_at "s")
  refine lamplant_ok hI2 (by rw [hx]; rfl) ?_
  repeat (first | walk_at "m" | walk_at "e" | walk_at "s")
  refine q _ ?_ (set_get hI2)
  exact Frame.trans (Frame.mono hF2 fun l _ h => h.elim) (Frame.put rfl)
section
set_option maxHeartbeats 1000000
theorem small_of {i : Int} (h : -9223372036854775808 < i) (h' : i < 9223372036854775808) : small i = true := by simp [small, h, h']
theorem bop_mul {i j : Int} {st : St} {Q : MV → St → Prop} (h : small i = true ∨ small j = true) (q : Q (.int (i * j)) st) : W2 (bop .Mult (.int i) (.int j) st) Q :=
  ⟨_, _, by show (if _ then _ else _) = _; rw [if_pos (by rcases h with h | h <;> simp [h])], q⟩
theorem bop_mod {i j : Int} {st : St} {Q : MV → St → Prop} (h : j ≠ 0) (q : Q (.int (i.fmod j)) st) : W2 (bop .Mod (.int i) (.int j) st) Q :=
  ⟨_, _, by show (if _ then _ else _) = _; rw [if_neg h], q⟩
theorem bop_fdiv {i j : Int} {st : St} {Q : MV → St → Prop} (h : 0 < j) (h' : j < 1073741824) (q : Q (.int (i.fdiv j)) st) : W2 (bop .FloorDiv (.int i) (.int j) st) Q :=
  ⟨_, _, by show (if _ then _ else _) = _; rw [if_pos (by simp [h, h'])], q⟩
theorem bop_pow {i j : Int} {st : St} {Q : MV → St → Prop} (h : 0 ≤ j) (h' : j < 64) (hs : small i = true) (q : Q (.int (i ^ j.toNat)) st) : W2 (bop .Pow (.int i) (.int j) st) Q :=
  ⟨_, _, by show (if _ then _ else _) = _; rw [if_pos (by simp [h, h', hs])], q⟩
theorem allInt_map : ∀ (ns : List Int), allInt (ns.map .int) = some ns
  | [] => rfl
  | n :: ns => by rw [List.map_cons, allInt, allInt_map ns]; rfl
theorem call_sum {P : MP} {n : Nat} {xs : List MV} {ns : List Int} {st : St} {Q : MV → St → Prop} (h : allInt xs = some ns) (q : Q (.int ns.sum) st) : W2 ((run P (n + 1)).call (.bi .sum) [.lst xs] st) Q :=
  call_bi (by show (allInt xs).map _ = _; rw [h]; rfl) q
noncomputable abbrev penL (ns : List Int) (t g : Int) : List MV := [.lst (ns.map .int), .int t, .int g]
theorem item_locZ {l : Nat} {xs : List MV} {i : Int} {v : MV} {st : St} {Q : MV → Prop} (hl : st[l]? = some (.list xs)) (h : idxM xs i = some v) (q : Q v) : ∃ r, getItemM (.loc l) (.int i) st = some r ∧ Q r :=
  ⟨v, by show Option.bind (listAt st l) _ = _; rw [listAt_of hl]; exact h, q⟩
theorem put_locZ {l : Nat} {xs ys : List MV} {i : Int} {v : MV} {st : St} {Q : St → Prop} (hl : st[l]? = some (.list xs)) (h : (decide (0 ≤ i) && decide (i.toNat < xs.length)) = true) (hy : xs.set i.toNat v = ys) (q : Q (st.set l (.list ys))) : ∃ st', setItemM (.loc l) (.int i) v st = some st' ∧ Q st' :=
  ⟨_, by
    simp only [Bool.and_eq_true, decide_eq_true_eq] at h
    show Option.bind (listAt st l) _ = some (st.set l (.list ys))
    rw [listAt_of hl, ← hy]; exact if_pos h, q⟩
theorem cmp_nil {l : Nat} {xs : List MV} {b : Bool} {st : St} {Q : Bool → Prop} (hl : st[l]? = some (.list [])) (h : (!decide (xs.length = 0)) = b) (q : Q b) : ∃ r, cmp .NotEq (.lst xs) (.loc l) st = some r ∧ Q r := by
  refine ⟨b, ?_, q⟩
  show (Option.bind (listAt st l) _).map _ = _
  rw [listAt_of hl]
  induction xs using List.casesOn with
  | nil => rw [← h]; rfl
  | cons x xs => rw [← h]; simp [leq]
theorem item_lstZ {xs : List MV} {i : Int} {v : MV} {st : St} {Q : MV → Prop} (h : idxM xs i = some v) (q : Q v) : ∃ r, getItemM (.lst xs) (.int i) st = some r ∧ Q r := ⟨v, h, q⟩
theorem idx_mod {ns : List Int} {t : Int} (h : ns.length ≠ 0) : ∃ c, idxM (ns.map .int) (t.fmod (ns.map MV.int).length) = some (.int c) := by
  rw [List.length_map]
  have h1 := Int.fmod_nonneg_of_pos t (b := (ns.length : Int)) (by omega)
  have h2 := Int.fmod_lt_of_pos t (b := (ns.length : Int)) (by omega)
  unfold idxM
  rw [if_pos h1, List.getElem?_map, List.getElem?_eq_getElem (by omega)]
  exact ⟨_, rfl⟩
theorem mix_bound {x t : Int} (h0 : 0 ≤ x) (h1 : x < 2147483629) (h2 : 0 ≤ t) (h3 : t ≤ 100000) : -9223372036854775808 < x * (2 * t + 6607) + 28201 * t * t + 41 ∧ x * (2 * t + 6607) + 28201 * t * t + 41 < 9223372036854775808 := by
  have a1 : 0 ≤ x * (2 * t + 6607) := Int.mul_nonneg h0 (by omega)
  have a2 : x * (2 * t + 6607) ≤ 2147483629 * 206607 := Int.mul_le_mul (by omega) (by omega) (by omega) (by decide)
  have a3 : 0 ≤ 28201 * t * t := Int.mul_nonneg (by omega) h2
  have a4 : 28201 * t * t ≤ 2820100000 * 100000 := Int.mul_le_mul (by omega) h3 h2 (by decide)
  constructor <;> omega
/-- items of the pen's list -/
local macro_rules | `(tactic| walk_at "p") => `(tactic| ((with_reducible apply item_locZ); (· assumption); (· rfl)))
theorem xs_of {R : Rec} {l r : List Stmt} {s : Stmt} {me : ME} {lc : Lc} {st : St} {X : MF → Lc → St → Prop} (h : l = s :: r) (w : W3 (exs R (s :: r) me lc st) X) : W3 (exs R l me lc st) X := by rw [h]; exact w
/-- the pen's last rows -/
theorem mix_ok {c t many : Int} {lc : Lc} {st : St} {n : Nat} {Q : MV → St → Prop} (h1 : lc "cell" = some (.int c)) (h2 : lc "turn" = some (.int t)) (h3 : lc "many" = some (.int many)) (ht : 0 ≤ t) (ht' : t ≤ 100000) (hm : 0 < many)
    (q : ∀ d, 0 ≤ d → d < many → Q (.int d) st) : W3 (exs (run lawP (n + 30)) ((dat 238).body.drop 6) (meOf 238) lc st) (retX Q) := by
  refine xs_of rfl ?_
  have hm0 : many ≠ 0 := by omega
  repeat (first | walk_at "m" | walk_at "e" | walk_at "s")
  have b1 := Int.fmod_nonneg_of_pos c (b := 2147483587) (by decide)
  have b2 := Int.fmod_lt_of_pos c (b := 2147483587) (by decide)
  refine bop_pow (by decide) (by decide) (small_of (by omega) (by omega)) ?_
  repeat (first | walk_at "m" | walk_at "e" | walk_at "s")
  have b3 := Int.fmod_nonneg_of_pos ((c.fmod 2147483587 + 28201 * t + 2203) ^ Int.toNat 5) (b := 2147483629) (by decide)
  have b4 := Int.fmod_lt_of_pos ((c.fmod 2147483587 + 28201 * t + 2203) ^ Int.toNat 5) (b := 2147483629) (by decide)
  generalize ((c.fmod 2147483587 + 28201 * t + 2203) ^ Int.toNat 5).fmod 2147483629 = x at *
  obtain ⟨b5, b6⟩ := mix_bound b3 b4 ht ht'
  refine bop_mul (.inl (small_of (by omega) (by omega))) ?_
  repeat (first | walk_at "m" | walk_at "e" | walk_at "s")
  refine bop_mul (.inl (small_of (by omega) (by omega))) ?_
  repeat (first | walk_at "m" | walk_at "e" | walk_at "s")
  refine bop_pow (by decide) (by decide) (small_of (by omega) (by omega)) ?_
  repeat (first | walk_at "m" | walk_at "e" | walk_at "s")
  refine bop_mod hm0 ?_
  repeat (first | walk_at "m" | walk_at "e" | walk_at "s")
  exact q _ (Int.fmod_nonneg_of_pos _ hm) (Int.fmod_lt_of_pos _ hm)
theorem draw_ok {p : Nat} {ns : List Int} {t g many : Int} {st : St} {n : Nat} {Q : MV → St → Prop} (hp : st[p]? = some (.list (penL ns t g))) (ht : 0 ≤ t) (ht' : t ≤ 100000) (hm : 0 < many) (hm' : many < 1073741824)
    (q : ∀ st' d t' g', Frame (fun l => l = p) st st' → st'[p]? = some (.list (penL ns t' g')) → 0 ≤ t' → t' ≤ t + 1 → 0 ≤ d → d < many → Q (.int d) st') :
    W2 ((run lawP (n+40)).call (.fn 238) [.loc p, .int many] st) Q := by
  refine call_def (lc0 := (Lc.nil.set "pen" (.loc p)).set "many" (.int many)) (by decide +kernel) (by decide +kernel) rfl rfl rfl ?_
  have hm0 : many ≠ 0 := by omega
  by_cases hg : 0 < g
  · repeat (first | walk_at "m" | walk_at "e" | walk_at "p" | walk_at "s")
    refine bop_mod hm0 ?_
    repeat (first | walk_at "m" | walk_at "e" | walk_at "p" | walk_at "s")
    refine bop_fdiv hm hm' ?_
    repeat (first | walk_at "m" | walk_at "e" | walk_at "p" | walk_at "s")
    refine put_locZ (ys := penL ns t (g.fdiv many)) hp rfl rfl ?_
    repeat (first | walk_at "m" | walk_at "e" | walk_at "p" | walk_at "s")
    exact q _ _ t _ (Frame.put rfl) (set_get hp) ht (by omega) (Int.fmod_nonneg_of_pos _ hm) (Int.fmod_lt_of_pos _ hm)
  · repeat (first | walk_at "m" | walk_at "e" | walk_at "p" | walk_at "s")
    refine put_locZ (ys := penL ns (t + 1) g) hp rfl rfl ?_
    have hp1 : (st.set p (.list (penL ns (t + 1) g)))[p]? = some (.list (penL ns (t + 1) g)) := set_get hp
    have hF : Frame (fun l => l = p) st (st.set p (.list (penL ns (t + 1) g))) := Frame.put rfl
    generalize st.set p (.list (penL ns (t + 1) g)) = st1 at *
    repeat (first | walk_at "m" | walk_at "e" | walk_at "p" | walk_at "s")
    refine call_sum (ns := ns.take 1) (by rw [← allInt_map (ns.take 1), List.map_take]; rfl) ?_
    repeat (first | walk_at "m" | walk_at "e" | walk_at "p" | walk_at "s")
    generalize (28201 : Int) * t + 2203 + ((ns.take 1).sum).fmod 1000003 = c0
    have hp2 : (st1 ++ [MO.list []])[p]? = some (.list (penL ns (t + 1) g)) := app_get hp1
    have hF2 : Frame (fun l => l = p) st (st1 ++ [MO.list []]) := hF.trans Frame.add
    have hnew : (st1 ++ [MO.list []])[st1.length]? = some (.list []) := app_new
    generalize st1 ++ [MO.list []] = st2 at *
    by_cases hns : ns.length = 0
    · refine cmp_nil (b := false) hnew (by simp [hns]) ?_
      repeat (first | exact mix_ok (by walk_at "lc") (by walk_at "lc") (by walk_at "lc") ht ht' hm fun d h1 h2 => q _ _ (t + 1) g hF2 hp2 (by omega) (by omega) h1 h2 | walk_at "m" | walk_at "e" | walk_at "p" | walk_at "s")
      rw [List.length_map]
      repeat (first | exact mix_ok (by walk_at "lc") (by walk_at "lc") (by walk_at "lc") ht ht' hm fun d h1 h2 => q _ _ (t + 1) g hF2 hp2 (by omega) (by omega) h1 h2 | walk_at "m" | walk_at "e" | walk_at "p" | walk_at "s")
    · refine cmp_nil (b := true) hnew (by simp [hns]) ?_
      repeat (first | walk_at "m" | walk_at "e" | walk_at "p" | walk_at "s")
      refine bop_mod (by rw [List.length_map]; omega) ?_
      repeat (first | walk_at "m" | walk_at "e" | walk_at "p" | walk_at "s")
      obtain ⟨c, hc⟩ := @idx_mod ns t hns
      refine item_lstZ hc ?_
      repeat (first | walk_at "m" | walk_at "e" | walk_at "p" | walk_at "s")
      rw [List.length_map]
      by_cases h1 : t < ns.length
      · by_cases h2 : (10 : Int) ^ Int.toNat 18 ≤ (c.natAbs : Int)
        · repeat (first | walk_at "m" | walk_at "e" | walk_at "p" | walk_at "s")
          refine bop_fdiv hm hm' ?_
          repeat (first | walk_at "m" | walk_at "e" | walk_at "p" | walk_at "s")
          refine put_locZ (ys := penL ns (t + 1) ((2 * (c.natAbs - (10 : Int) ^ Int.toNat 18) + boolInt (decide (c < 0))).fdiv many)) hp2 rfl rfl ?_
          repeat (first | walk_at "m" | walk_at "e" | walk_at "p" | walk_at "s")
          refine bop_mod hm0 ?_
          repeat (first | walk_at "m" | walk_at "e" | walk_at "p" | walk_at "s")
          exact q _ _ (t + 1) _ (hF2.trans (Frame.put rfl)) (set_get hp2) (by omega) (by omega) (Int.fmod_nonneg_of_pos _ hm) (Int.fmod_lt_of_pos _ hm)
        · repeat (first | exact mix_ok (by walk_at "lc") (by walk_at "lc") (by walk_at "lc") ht ht' hm fun d h1 h2 => q _ _ (t + 1) g hF2 hp2 (by omega) (by omega) h1 h2 | walk_at "m" | walk_at "e" | walk_at "p" | walk_at "s")
      · repeat (first | exact mix_ok (by walk_at "lc") (by walk_at "lc") (by walk_at "lc") ht ht' hm fun d h1 h2 => q _ _ (t + 1) g hF2 hp2 (by omega) (by omega) h1 h2 | walk_at "m" | walk_at "e" | walk_at "p" | walk_at "s")
end
set_option maxHeartbeats 1000000
/-- the pen, whose turn is t at most -/
noncomputable def PenAt (st : St) (p : Nat) (T : Nat) : Prop := ∃ ns t g, st[p]? = some (.list (penL ns t g)) ∧ 0 ≤ t ∧ t ≤ (T : Int)
theorem PenAt.le {st : St} {p T T' : Nat} (h : PenAt st p T) (l : T ≤ T') : PenAt st p T' := let ⟨ns, t, g, a, b, c⟩ := h; ⟨ns, t, g, a, b, by omega⟩
theorem PenAt.app {st s : St} {p T : Nat} (h : PenAt st p T) : PenAt (st ++ s) p T := let ⟨ns, t, g, a, b, c⟩ := h; ⟨ns, t, g, app_get a, b, c⟩
theorem PenAt.frame {st st' : St} {p T : Nat} {S : Nat → Prop} (h : PenAt st p T) (hF : Frame S st st') (hn : ¬ S p) : PenAt st' p T := let ⟨ns, t, g, a, b, c⟩ := h; ⟨ns, t, g, hF.get a hn, b, c⟩
theorem PenAt.lt {st : St} {p T : Nat} (h : PenAt st p T) : p < st.length := let ⟨_, _, _, a, _, _⟩ := h; (List.getElem?_eq_some_iff.mp a).1
theorem drawN_ok {p T many : Nat} {st : St} {n : Nat} {Q : MV → St → Prop} (hp : PenAt st p T) (hT : T ≤ 100000) (hm : 0 < many) (hm' : many < 1073741824)
    (q : ∀ st' d, Frame (fun l => l = p) st st' → PenAt st' p (T + 1) → d < many → Q (.int (d : Nat)) st') : W2 ((run lawP (n+40)).call (.fn 238) [.loc p, .int many] st) Q := by
  obtain ⟨ns, t, g, a, b, c⟩ := hp
  refine draw_ok a b (by omega) (by omega) (by omega) fun st' d t' g' hF hp h1 h2 h3 h4 => ?_
  have := q st' d.toNat hF ⟨ns, t', g', hp, h1, by omega⟩ (by omega)
  rw [Int.toNat_of_nonneg h3] at this
  exact this
theorem picklst_ok {p T : Nat} {xs : List MV} {st : St} {n : Nat} {Q : MV → St → Prop} (hp : PenAt st p T) (hT : T ≤ 100000) (hx : 0 < xs.length) (hx' : xs.length ≤ 1000)
    (q : ∀ (st' : St) (i : Nat) (v : MV), Frame (fun l => l = p) st st' → PenAt st' p (T + 1) → xs[i]? = some v → Q v st') : W2 ((run lawP (n+50)).call (.fn 245) [.loc p, .lst xs] st) Q := by
  refine call_def (lc0 := (Lc.nil.set "pen" (.loc p)).set "some" (.lst xs)) (by decide +kernel) (by decide +kernel) rfl rfl rfl ?_
  repeat (first | walk_at "m" | walk_at "e" | walk_at "s")
  refine drawN_ok hp hT hx (by omega) fun st' d hF hp' hd => ?_
  repeat (first | walk_at "m" | walk_at "e" | walk_at "s")
  refine item_lst (List.getElem?_eq_getElem hd) ?_
  repeat (first | walk_at "m" | walk_at "e" | walk_at "s")
  exact q st' d _ hF hp' (List.getElem?_eq_getElem hd)
theorem pickbyt_ok {p T : Nat} {xs : List UInt8} {st : St} {n : Nat} {Q : MV → St → Prop} (hp : PenAt st p T) (hT : T ≤ 100000) (hx : 0 < xs.length) (hx' : xs.length ≤ 1000)
    (q : ∀ (st' : St) (i : Nat) (v : UInt8), Frame (fun l => l = p) st st' → PenAt st' p (T + 1) → xs[i]? = some v → Q (.int v.toNat) st') : W2 ((run lawP (n+50)).call (.fn 245) [.loc p, .bytes xs] st) Q := by
  refine call_def (lc0 := (Lc.nil.set "pen" (.loc p)).set "some" (.bytes xs)) (by decide +kernel) (by decide +kernel) rfl rfl rfl ?_
  repeat (first | walk_at "m" | walk_at "e" | walk_at "s")
  refine drawN_ok hp hT hx (by omega) fun st' d hF hp' hd => ?_
  repeat (first | walk_at "m" | walk_at "e" | walk_at "s")
  refine item_bytes (List.getElem?_eq_getElem hd) ?_
  repeat (first | walk_at "m" | walk_at "e" | walk_at "s")
  exact q st' d _ hF hp' (List.getElem?_eq_getElem hd)
theorem ref_ok {x : Str} {st : St} {n : Nat} {Q : MV → St → Prop} (q : Q (refV x) st) : W2 ((run lawP (n+20)).call (.fn 252) [.str x] st) Q := by
  refine call_def (lc0 := Lc.nil.set "name" (.str x)) (by decide +kernel) (by decide +kernel) rfl rfl rfl ?_
  repeat (first | walk_at "m" | walk_at "e" | walk_at "s")
  exact q
noncomputable def edges : List (Option Op) := [none, none, some (.text [88]), some (.fig .zero), some (.ref "E"), some (.fig .quote)]
theorem edge_ok {p T : Nat} {st : St} {n : Nat} {Q : MV → St → Prop} (hp : PenAt st p T) (hT : T ≤ 100000)
    (q : ∀ st' o, Frame (fun l => l = p) st st' → PenAt st' p (T + 1) → o ∈ edges → Q (optOp o) st') : W2 ((run lawP (n+70)).call (.fn 290) [.loc p] st) Q := by
  refine call_def (lc0 := Lc.nil.set "pen" (.loc p)) (by decide +kernel) (by decide +kernel) rfl rfl rfl ?_
  repeat (first | walk_at "m" | walk_at "e" | walk_at "s")
  refine ref_ok ?_
  repeat (first | walk_at "m" | walk_at "e" | walk_at "s")
  refine picklst_ok hp hT (by decide) (by decide) fun st' i v hF hp' hv => ?_
  repeat (first | walk_at "m" | walk_at "e" | walk_at "s")
  have hv' : (edges.map optOp)[i]? = some v := hv
  rw [List.getElem?_map] at hv'
  obtain ⟨o, ho, rfl⟩ := Option.map_eq_some_iff.mp hv'
  exact q st' o hF hp' (List.mem_of_getElem? ho)
theorem pen_ok {ns : List Int} {st : St} {n : Nat} {Q : MV → St → Prop} (q : ∀ st' p, Frame (fun _ => False) st st' → st.length ≤ p → PenAt st' p 0 → Q (.loc p) st') :
    W2 ((run lawP (n+80)).call (.fn 231) [.lst (ns.map .int)] st) Q := by
  refine call_def (lc0 := Lc.nil.set "script" (.lst (ns.map .int))) (by decide +kernel) (by decide +kernel) rfl rfl rfl ?_
  repeat (first | walk_at "m" | walk_at "e" | walk_at "s")
  have hk : (ns.take 48).length ≤ 48 := by simp; omega
  have hm : (List.map MV.int ns).take (Int.toNat 48) = (ns.take 48).map .int := by rw [List.map_take]; rfl
  rw [hm]
  generalize ns.take 48 = ks at *
  refine comp_inv 20 ks.length (fun i => .lst (ks.map .int) i) (fun i => .int (ks.getD i 0)) (fun i acc _ st' => acc = (ks.take i).map .int ∧ st' = st)
    (fun _ => rfl) (fun i acc lc st' hi h => lst_next (by rw [List.getElem?_map, List.getElem?_eq_getElem hi, List.getD_eq_getElem?_getD, List.getElem?_eq_getElem hi]; rfl)) (fun acc lc st' h => lst_end (by rw [List.length_map]; exact Nat.le_refl _)) ?_ ?_ ks.length 0 _ _ _ _ (by omega) (by omega)
    ⟨rfl, rfl⟩
  · intro i m acc lc st' hi ⟨h1, h2⟩
    subst h1 h2
    refine ⟨by rw [List.length_map, List.length_take]; omega, ?_⟩
    repeat (first | walk_at "m" | walk_at "e" | walk_at "s")
    refine ⟨?_, rfl⟩
    rw [List.take_add_one, List.getElem?_eq_getElem hi, List.map_append, List.getD_eq_getElem?_getD, List.getElem?_eq_getElem hi]; rfl
  · intro acc lc st' ⟨h1, h2⟩
    subst h1 h2
    rw [List.take_length]
    repeat (first | walk_at "m" | walk_at "e" | walk_at "s")
    exact q _ _ Frame.add (Nat.le_refl _) ⟨ks, 0, 0, app_new, Int.le_refl _, Int.le_refl _⟩
set_option maxHeartbeats 1000000
noncomputable def bases : List Op := [.text [65], .fig .zero, .ref "B", .fig .space]
noncomputable def rotD (f d : Nat) : List Op := (bases.drop f ++ bases.take f).take (1 + d)
theorem rotD_len {f d : Nat} (hf : f < 4) (hd : d < 4) : (rotD f d).length = 1 + d := by
  unfold rotD
  rw [List.length_take, List.length_append, List.length_drop, List.length_take, show bases.length = 4 from rfl]
  omega
/-- what kinds and operands are drawn -/
noncomputable def Drawn (ks : List Kd) (k : Nat) (kd : Nat → Kd) (op : Nat → Option Op) : Prop :=
  (k = 1 ∧ kd 0 = .chars ∧ op 0 = none) ∨ ∃ f d, f < 4 ∧ d < 4 ∧ k = 1 + d ∧ ∀ i < k, kd i ∈ ks ∧ op i = (rotD f d)[i]?
noncomputable abbrev koV (kd : Kd) (op : Option Op) : MV := .tup [.str kd.str, optOp op]
theorem bop_addl {x y z : List MV} {st : St} {Q : MV → St → Prop} (h : x.length + y.length ≤ 1048576) (e : x ++ y = z) (q : Q (.lst z) st) : W2 (bop .Add (.lst x) (.lst y) st) Q :=
  ⟨_, _, by show (if _ then _ else _) = _; rw [if_pos h, e], q⟩
theorem rows_ok {ks : List Kd} {p T : Nat} {st : St} {n : Nat} {Q : MV → St → Prop} (hp : PenAt st p T) (hT : T ≤ 10000) (hks : 0 < ks.length) (hks' : ks.length ≤ 10)
    (q : ∀ (st' : St) (k : Nat) (kd : Nat → Kd) (op : Nat → Option Op), Frame (fun l => l = p) st st' → PenAt st' p (T + 20) → Drawn ks k kd op → Q (.lst ((List.range k).map fun i => koV (kd i) (op i))) st') :
    W2 ((run lawP (n+90)).call (.fn 295) [.loc p, .lst (ks.map fun k => .str k.str)] st) Q := by
  refine call_def (lc0 := (Lc.nil.set "pen" (.loc p)).set "kinds" (.lst (ks.map fun k => .str k.str))) (by decide +kernel) (by decide +kernel) rfl rfl rfl ?_
  repeat (first | walk_at "m" | walk_at "e" | walk_at "s")
  refine drawN_ok hp (by omega) (many := 4) (by decide) (by decide) fun st1 d hF1 hp1 hd => ?_
  by_cases h0 : d = 0
  · subst h0
    repeat (first | walk_at "m" | walk_at "e" | walk_at "s")
    exact q st1 1 (fun _ => .chars) (fun _ => none) hF1 (hp1.le (by omega)) (.inl ⟨rfl, rfl, rfl⟩)
  · repeat (first | walk_at "m" | walk_at "e" | walk_at "s")
    refine ref_ok ?_
    repeat (first | walk_at "m" | walk_at "e" | walk_at "s")
    refine drawN_ok hp1 (by omega) (many := 4) (by decide) (by decide) fun st2 f hF2 hp2 hf => ?_
    repeat (first | walk_at "m" | walk_at "e" | walk_at "s")
    refine bop_addl (z := (bases.drop f ++ bases.take f).map Op.v) (by simp; omega) (by rw [List.map_append, List.map_drop, List.map_take, Int.toNat_natCast]; rfl) ?_
    repeat (first | walk_at "m" | walk_at "e" | walk_at "s")
    refine drawN_ok hp2 (by omega) (many := 4) (by decide) (by decide) fun st3 d hF3 hp3 hd => ?_
    repeat (first | walk_at "m" | walk_at "e" | walk_at "s")
    have hys := rotD_len hf hd
    have hz : List.take ((1 : Int) + (d : Int)).toNat ((bases.drop f ++ bases.take f).map Op.v) = (rotD f d).map Op.v := by
      rw [show ((1 : Int) + (d : Int)).toNat = 1 + d by omega, ← List.map_take]; rfl
    rw [hz]
    refine comp_inv 70 (1 + d) (fun i => .lst ((rotD f d).map Op.v) i) (fun i => optOp ((rotD f d)[i]?)) (fun i acc _ st' => ∃ kd : Nat → Kd, (∀ j < i, kd j ∈ ks) ∧ acc = (List.range i).map (fun j => koV (kd j) ((rotD f d)[j]?)) ∧ Frame (fun l => l = p) st3 st' ∧ PenAt st' p (T + 3 + i))
      (fun _ => rfl) (fun i acc lc st' hi h => lst_next (by rw [List.getElem?_map, List.getElem?_eq_getElem (by omega)]; rfl)) (fun acc lc st' h => lst_end (by rw [List.length_map]; omega)) ?_ ?_ (1 + d) 0 _ _ _ _ (by omega) (by omega)
      ⟨fun _ => .all, fun j hj => absurd hj (Nat.not_lt_zero _), rfl, Frame.rfl, hp3.le (by omega)⟩
    · intro i m acc lc st' hi ⟨kd, h1, h2, hF, hp'⟩
      subst h2
      refine ⟨by rw [rng_len]; omega, ?_⟩
      repeat (first | walk_at "m" | walk_at "e" | walk_at "s")
      refine picklst_ok hp' (by omega) (by rw [List.length_map]; exact hks) (by rw [List.length_map]; omega) fun st4 j v hF4 hp4 hv => ?_
      rw [List.getElem?_map] at hv
      obtain ⟨kk, hkk, rfl⟩ := Option.map_eq_some_iff.mp hv
      repeat (first | walk_at "m" | walk_at "e" | walk_at "s")
      refine ⟨fun j => if j = i then kk else kd j, fun j hj => ?_, ?_, hF.trans hF4, hp4.le (by omega)⟩
      · dsimp only
        split
        · exact List.mem_of_getElem? hkk
        · exact h1 j (by omega)
      · rw [← rng_snoc]
        congr 1
        · apply List.map_congr_left
          intro j hj
          dsimp only
          rw [if_neg (by have := List.mem_range.mp hj; omega)]
        · dsimp only
          rw [if_pos rfl]
    · intro acc lc st' ⟨kd, h1, h2, hF, hp'⟩
      subst h2
      repeat (first | walk_at "m" | walk_at "e" | walk_at "s")
      exact q st' (1 + d) kd (fun i => (rotD f d)[i]?) (hF1.trans (hF2.trans (hF3.trans hF))) (hp'.le (by omega)) (.inr ⟨f, d, hf, hd, rfl, fun i hi => ⟨h1 i hi, rfl⟩⟩)
set_option maxHeartbeats 1000000
noncomputable def isAt (o : List UInt8) (u : UInt8) (i : Nat) : Bool := decide (o[i]? = some u)
noncomputable def spanL (o : List UInt8) (be af : Option UInt8) : List Nat := List.range' (begOf o af) (endOf o be - begOf o af)
noncomputable abbrev natsV (l : List Nat) : List MV := l.map fun i => .int (i : Nat)
theorem slice_at1 (o : List UInt8) (a : Nat) (u : UInt8) : decide (List.drop (a : Int).toNat (List.take ((a : Int) + 1).toNat o) = [u]) = isAt o u a := by
  rw [show ((a : Int) + 1).toNat = a + 1 by omega, Int.toNat_natCast]
  exact decide_eq_decide.mpr (slice1 o a u)
theorem filter_snoc {p : Nat → Bool} {i : Nat} : (List.range (i + 1)).filter p = (List.range i).filter p ++ if p i then [i] else [] := by
  rw [List.range_succ, List.filter_append, List.filter_cons, List.filter_nil]
theorem hits_head {o : List UInt8} {u : UInt8} : ((List.range o.length).filter (isAt o u))[0]? = posOf o u := by
  rw [← List.head?_eq_getElem?, List.head?_filter]
  cases h : (List.range o.length).find? (isAt o u) with
  | some k =>
    obtain ⟨h1, h2, h3⟩ := List.find?_range_eq_some.mp h
    rw [posOf_some (of_decide_eq_true h1) (fun j hj => by have := h3 j hj; simpa [isAt] using this)]
  | none =>
    have h1 := List.find?_eq_none.mp h
    rw [posOf_none fun j hj => by have := h1 j (List.mem_range.mpr hj); simpa [isAt] using this]
theorem head_or {l : List Nat} {f : Nat → Int} {n : Int} : idxM (l.map (fun i => MV.int (f i)) ++ [.int n]) 0 = some (.int (match l[0]? with | some k => f k | none => n)) := by
  cases l <;> rfl
theorem rangeInts_map : ∀ (k : Nat) (b : Nat), (rangeInts (b : Int) 1 k).map MV.int = natsV (List.range' b k)
  | 0, _ => rfl
  | k + 1, b => by
    rw [rangeInts, List.map_cons, List.range'_succ]
    show _ :: _ = _ :: natsV (List.range' (b + 1) k)
    rw [← rangeInts_map k (b + 1)]; rfl
theorem call_list_rng {P : MP} {n : Nat} {a b : Nat} {st : St} {Q : MV → St → Prop} (ha : a ≤ 1000) (hb : b ≤ 1000) (q : Q (.lst (natsV (List.range' a (b - a)))) st) : W2 ((run P (n + 1)).call (.bi .list) [.rng a b 1] st) Q := by
  refine call_bi (v := .lst (natsV (List.range' a (b - a)))) (st' := st) ?_ q
  show (if _ then _ else _) = _
  rw [if_pos ⟨smallR_of (by omega) (by omega) (by omega) (by omega), rfl⟩]
  rw [show rangeLen (a : Int) (b : Int) 1 = b - a by unfold rangeLen; rw [if_pos rfl]; omega, rangeInts_map]
theorem pos_le {o : List UInt8} {u : UInt8} {k : Nat} (h : posOf o u = some k) : k < o.length := by
  unfold posOf at h
  exact (List.findIdx?_eq_some_iff_getElem.mp h).1
theorem beg_le {o : List UInt8} {w : Option UInt8} : begOf o w ≤ o.length := by
  unfold begOf
  split
  · omega
  · split
    · omega
    · rename_i h; have := pos_le h; omega
theorem end_le {o : List UInt8} {w : Option UInt8} : endOf o w ≤ o.length := by
  unfold endOf
  split
  · omega
  · split
    · omega
    · rename_i h; have := pos_le h; omega
theorem one_get {es : List (Str × MV)} {o : Op} {u : Option UInt8} (h : OneOf es (some o) u) : ∃ w, u = some w ∧ o.get es 1 = some [w] := by
  induction u using Option.casesOn with
  | none => exact h.elim
  | some w => exact ⟨w, rfl, h⟩
theorem cmp_isnot {v : MV} {b : Bool} {st : St} {Q : Bool → Prop} (h : (!isNoneM v) = b) (q : Q b) : ∃ r, cmp .IsNot v .none st = some r ∧ Q r := ⟨_, rfl, by rw [h]; exact q⟩
/-- the places of an octet, as a comprehension -/
theorem spots_comp {o : List UInt8} {u : UInt8} {f : Nat → Int} {elt t : Expr} {ifs : List Expr} {me : ME} {st0 : St} {m : Nat} {Q : List MV → St → Prop} (hl : o.length ≤ 16)
    (hb : ∀ i m lc, i < o.length → W2 (assignF lawP (run lawP (m + 30)) t (.int ((0 : Int) + (i : Nat))) me lc st0) fun lc st => W2 (tests (run lawP (m + 30)) ifs me lc st) fun ok st' => st' = st0 ∧ ok = isAt o u i ∧ (ok = true → W2 ((run lawP (m + 30)).ev elt me lc st') fun v st' => st' = st0 ∧ v = .int (f i)))
    (q : Q (((List.range o.length).filter (isAt o u)).map fun i => .int (f i)) st0) : W2 ((run lawP (m + 50)).comp elt t ifs (rngAt 0 o.length 0) [] me Lc.nil st0) Q := by
  refine comp_inv 30 o.length (rngAt 0 o.length) (fun i => .int ((0 : Int) + (i : Nat))) (fun i acc _ st' => acc = ((List.range i).filter (isAt o u)).map (fun i => .int (f i)) ∧ st' = st0)
    (fun _ => rfl) (fun i acc lc st' hi h => rngAt_next hi) (fun acc lc st' h => rngAt_end) ?_ ?_ o.length 0 _ _ _ _ (by omega) (by omega)
    ⟨rfl, rfl⟩
  · intro i m acc lc st' hi ⟨h1, h2⟩
    subst h1 h2
    refine ⟨?_, ?_⟩
    · rw [List.length_map]
      have := List.length_filter_le (isAt o u) (List.range i)
      rw [List.length_range] at this
      omega
    refine (hb i m lc hi).imp fun lc' s1 h => h.imp fun ok s2 ⟨e1, e2, h⟩ => ?_
    refine ⟨fun ho => (h ho).imp fun v s3 ⟨e3, e4⟩ => ⟨?_, e3⟩, fun ho => ⟨?_, e1⟩⟩
    · rw [e4, filter_snoc, ← e2, ho, if_pos rfl, List.map_append]; rfl
    · rw [filter_snoc, ← e2, ho, if_neg (by decide), List.append_nil]
  · intro acc lc st' ⟨h1, h2⟩
    rw [h1, h2]; exact q
theorem span_ok {I : Nat} {es : List (Str × MV)} {o : List UInt8} {obe oaf : Option Op} {be af : Option UInt8} {st : St} {n : Nat} {Q : MV → St → Prop} (hI : st[I]? = some (.dict es)) (hl : o.length ≤ 16) (hbe : OneOf es obe be) (haf : OneOf es oaf af)
    (q : Q (.lst (natsV (spanL o be af))) st) : W2 ((run lawP (n+70)).call (.fn 278) [.loc I, .bytes o, optOp obe, optOp oaf] st) Q := by
  refine call_def (lc0 := (((Lc.nil.set "items" (.loc I)).set "octets" (.bytes o)).set "before" (optOp obe)).set "after" (optOp oaf)) (by decide +kernel) (by decide +kernel) rfl rfl rfl ?_
  have fin : ∀ {lc : Lc}, lc "items" = some (.loc I) → lc "octets" = some (.bytes o) → lc "before" = some (optOp obe) → lc "begin" = some (.int (begOf o af)) → lc "end" = some (.int o.length) →
      W3 (exs (run lawP (n + 69)) ((dat 278).body.drop 2) (meOf 278) lc st) (retX Q) := by
    intro lc h1 h2 h3 h4 h5
    refine xs_of rfl ?_
    have b1 := @beg_le o af
    have b2 := @end_le o be
    induction obe using Option.casesOn with
    | none =>
      induction be using Option.casesOn with
      | some u => exact hbe.elim
      | none =>
        repeat (first | walk_at "m" | walk_at "e" | walk_at "s")
        refine call_range2 (smallR_of (by omega) (by omega) (by omega) (by omega)) ?_
        repeat (first | walk_at "m" | walk_at "e" | walk_at "s")
        refine call_list_rng (by omega) (by omega) ?_
        exact q
    | some p =>
      obtain ⟨u, rfl, hp⟩ := one_get hbe
      have hno : (!isNoneM (optOp (some p))) = true := by show (!isNoneM p.v) = true; rw [op_isNone]; rfl
      repeat (first | walk_at "m" | ((with_reducible apply cmp_isnot); · exact hno) | walk_at "e" | walk_at "s")
      refine call_range1 (smallR_of (by omega) (by omega) (by omega) (by omega)) ?_
      refine it_rng (smallR_of (by omega) (by omega) (by omega) (by omega)) ?_
      rw [show ((o.length : Int) - 0).toNat = o.length by omega]
      refine spots_comp (f := fun i => i) (u := u) hl ?_ ?_
      · intro i m lc' hi
        rw [Int.zero_add]
        repeat (first | walk_at "m" | walk_at "e" | walk_at "s")
        refine fetch_ok (k := 1) hI hp (by omega) ?_
        refine ⟨_, rfl, ?_⟩
        rw [slice_at1]
        cases hz : isAt o u i with
        | true =>
          repeat (first | walk_at "m" | walk_at "e" | walk_at "s")
          refine ⟨rfl, rfl, fun _ => ?_⟩
          repeat (first | walk_at "m" | walk_at "e" | walk_at "s")
          exact ⟨rfl, rfl⟩
        | false =>
          repeat (first | walk_at "m" | walk_at "e" | walk_at "s")
          exact ⟨rfl, rfl, fun h => nomatch h⟩
      · have hlen := List.length_filter_le (isAt o u) (List.range o.length)
        rw [List.length_range] at hlen
        repeat (first | walk_at "m" | walk_at "e" | walk_at "s")
        refine bop_addl (by simp; omega) rfl ?_
        repeat (first | walk_at "m" | walk_at "e" | walk_at "s")
        refine item_lstZ head_or ?_
        rw [hits_head]
        have hend : ((match posOf o u with | some k => (k : Int) | none => (o.length : Int)) : Int) = ((endOf o (some u) : Nat) : Int) := by
          unfold endOf; dsimp only; cases posOf o u <;> rfl
        rw [hend]
        repeat (first | walk_at "m" | walk_at "e" | walk_at "s")
        refine call_range2 (smallR_of (by omega) (by omega) (by omega) (by omega)) ?_
        repeat (first | walk_at "m" | walk_at "e" | walk_at "s")
        refine call_list_rng (by omega) (by omega) ?_
        exact q
  repeat (first | walk_at "m" | walk_at "e" | walk_at "s")
  induction oaf using Option.casesOn with
  | none =>
    induction af using Option.casesOn with
    | some u => exact haf.elim
    | none =>
      rw [show ((begOf o none : Nat) : Int) = 0 from rfl] at fin
      repeat (first | exact fin (by walk_at "lc") (by walk_at "lc") (by walk_at "lc") (by walk_at "lc") (by walk_at "lc") | walk_at "m" | walk_at "e" | walk_at "s")
  | some p =>
    obtain ⟨u, rfl, hp⟩ := one_get haf
    have hno : (!isNoneM (optOp (some p))) = true := by show (!isNoneM p.v) = true; rw [op_isNone]; rfl
    refine both hno ?_
    repeat (first | walk_at "m" | walk_at "e" | walk_at "s")
    refine call_range1 (smallR_of (by omega) (by omega) (by omega) (by omega)) ?_
    refine it_rng (smallR_of (by omega) (by omega) (by omega) (by omega)) ?_
    rw [show ((o.length : Int) - 0).toNat = o.length by omega]
    refine spots_comp (f := fun i => (i : Int) + 1) (u := u) hl ?_ ?_
    · intro i m lc' hi
      rw [Int.zero_add]
      repeat (first | walk_at "m" | walk_at "e" | walk_at "s")
      refine fetch_ok (k := 1) hI hp (by omega) ?_
      refine ⟨_, rfl, ?_⟩
      rw [slice_at1]
      cases hz : isAt o u i with
      | true =>
        repeat (first | walk_at "m" | walk_at "e" | walk_at "s")
        refine ⟨rfl, rfl, fun _ => ?_⟩
        repeat (first | walk_at "m" | walk_at "e" | walk_at "s")
        exact ⟨rfl, rfl⟩
      | false =>
        repeat (first | walk_at "m" | walk_at "e" | walk_at "s")
        exact ⟨rfl, rfl, fun h => nomatch h⟩
    · have hlen := List.length_filter_le (isAt o u) (List.range o.length)
      rw [List.length_range] at hlen
      repeat (first | walk_at "m" | walk_at "e" | walk_at "s")
      refine bop_addl (by simp; omega) rfl ?_
      repeat (first | walk_at "m" | walk_at "e" | walk_at "s")
      refine item_lstZ head_or ?_
      rw [hits_head]
      have hbeg : ((match posOf o u with | some k => (k : Int) + 1 | none => (o.length : Int)) : Int) = ((begOf o (some u) : Nat) : Int) := by
        unfold begOf; dsimp only; cases posOf o u <;> rfl
      rw [hbeg]
      repeat (first | exact fin (by walk_at "lc") (by walk_at "lc") (by walk_at "lc") (by walk_at "lc") (by walk_at "lc") | walk_at "m" | walk_at "e" | walk_at "s")
section
local macro_rules | `(tactic| walk_at "kind") => `(tactic| ((try dsimp only [ME.kind]); first | decide +kernel | kernel_rfl!))
local macro_rules | `(tactic| walk_at "own") => `(tactic| ((try dsimp only); first | decide +kernel | kernel_rfl!))
set_option maxHeartbeats 1000000
noncomputable def leadIn (span hits : List Nat) (a : Nat) : Bool := (span.filter fun b => decide (b ≤ a) && !hits.contains b).isEmpty
noncomputable def takenL (o : List UInt8) (kd : Kd) (u : UInt8) (be af : Option UInt8) : List Nat :=
  let span := spanL o be af
  let hits := span.filter (isAt o u)
  match kd with
  | .chars => span
  | .all => hits
  | .first => hits.take 1
  | .lead => hits.filter (leadIn span hits)
theorem filt_comp {l : List Nat} {pr : Nat → Bool} {B : Nat} {elt t : Expr} {ifs : List Expr} {me : ME} {Inv : St → Prop} {f : Nat} {st : St} {Q : List MV → St → Prop} (hl : l.length ≤ 1000) (hf : B + l.length + 1 ≤ f)
    (hb : ∀ a m lc st, a ∈ l → Inv st → W2 (assignF lawP (run lawP (m + B)) t (.int (a : Nat)) me lc st) fun lc st => W2 (tests (run lawP (m + B)) ifs me lc st) fun ok st => ok = pr a ∧ (ok = true → W2 ((run lawP (m + B)).ev elt me lc st) fun v st' => v = .int (a : Nat) ∧ Inv st') ∧ (ok = false → Inv st))
    (hi : Inv st) (q : ∀ st, Inv st → Q (natsV (l.filter pr)) st) : W2 ((run lawP f).comp elt t ifs (.lst (natsV l) 0) [] me Lc.nil st) Q := by
  refine comp_inv B l.length (fun i => .lst (natsV l) i) (fun i => .int (l.getD i 0 : Nat)) (fun i acc _ st' => acc = natsV ((l.take i).filter pr) ∧ Inv st')
    (fun _ => rfl) (fun i acc lc st' hi h => lst_next (by rw [List.getElem?_map, List.getElem?_eq_getElem hi, List.getD_eq_getElem?_getD, List.getElem?_eq_getElem hi]; rfl)) (fun acc lc st' h => lst_end (by rw [List.length_map]; exact Nat.le_refl _)) ?_ ?_ l.length 0 _ _ _ _ (by omega) (by omega)
    ⟨rfl, hi⟩
  · intro i m acc lc st' hi ⟨h1, h2⟩
    subst h1
    have ha : l.getD i 0 = l[i] := by rw [List.getD_eq_getElem?_getD, List.getElem?_eq_getElem hi]; rfl
    refine ⟨?_, ?_⟩
    · rw [List.length_map]
      have h3 := List.length_filter_le pr (l.take i)
      rw [List.length_take] at h3
      omega
    rw [ha]
    have hs : (l.take (i + 1)).filter pr = (l.take i).filter pr ++ if pr l[i] then [l[i]] else [] := by
      rw [List.take_add_one, List.getElem?_eq_getElem hi, List.filter_append, Option.toList_some, List.filter_cons, List.filter_nil]
    refine (hb l[i] m lc st' (List.getElem_mem hi) h2).imp fun lc' s1 h => h.imp fun ok s2 ⟨e1, h3, h4⟩ => ⟨fun ho => (h3 ho).imp fun v s3 ⟨e3, e4⟩ => ⟨?_, e4⟩, fun ho => ⟨?_, h4 ho⟩⟩
    · rw [e3, hs, ← e1, ho, if_pos rfl]; unfold natsV; rw [List.map_append]; rfl
    · rw [hs, ← e1, ho, if_neg (by decide), List.append_nil]
  · intro acc lc st' ⟨h1, h2⟩
    rw [h1, List.take_length]; exact q st' h2
theorem allInt_nats : ∀ (l : List Nat), allInt (natsV l) = some (l.map fun (i : Nat) => (i : Int))
  | [] => rfl
  | n :: ns => by show (allInt (natsV ns)).map _ = _; rw [allInt_nats ns]; rfl
theorem contains_nats {b : Nat} : ∀ (l : List Nat), (l.map fun (i : Nat) => (i : Int)).contains (b : Int) = l.contains b
  | [] => rfl
  | a :: l => by
    rw [List.map_cons, List.contains_cons, List.contains_cons, contains_nats l]
    congr 1
    rw [Bool.eq_iff_iff]
    simp
    omega
theorem cmp_notin {l : List Nat} {b : Nat} {st : St} {Q : Bool → Prop} (q : Q (!l.contains b)) : ∃ r, cmp .NotIn (.int b) (.lst (natsV l)) st = some r ∧ Q r := by
  refine ⟨_, ?_, q⟩
  show (allInt (natsV l)).bind (fun l => some (!l.contains (b : Int))) = _
  rw [allInt_nats]
  show some (!((l.map fun (i : Nat) => (i : Int)).contains (b : Int))) = some _
  rw [contains_nats]
theorem cmp_nilE {l : Nat} {xs : List MV} {b : Bool} {st : St} {Q : Bool → Prop} (hl : st[l]? = some (.list [])) (h : decide (xs.length = 0) = b) (q : Q b) : ∃ r, cmp .Eq (.lst xs) (.loc l) st = some r ∧ Q r := by
  refine ⟨b, ?_, q⟩
  show Option.bind (listAt st l) _ = _
  rw [listAt_of hl]
  induction xs using List.casesOn with
  | nil => rw [← h]; rfl
  | cons x xs => rw [← h]; simp [leq]
theorem span_len {o : List UInt8} {be af : Option UInt8} : (spanL o be af).length ≤ o.length := by
  unfold spanL
  rw [List.length_range']
  have := @end_le o be
  omega
theorem taken_ok {I : Nat} {es : List (Str × MV)} {o : List UInt8} {kd : Kd} {u : UInt8} {op obe oaf : Option Op} {be af : Option UInt8} {st : St} {n : Nat} {Q : MV → St → Prop} (hI : st[I]? = some (.dict es)) (hl : o.length ≤ 16) (hop : KOf es op kd u) (hbe : OneOf es obe be) (haf : OneOf es oaf af)
    (q : ∀ st', Frame (fun _ => False) st st' → Q (.lst (natsV (takenL o kd u be af))) st') : W2 ((run lawP (n+110)).call (.fn 283) [.loc I, .bytes o, .str kd.str, optOp op, optOp obe, optOp oaf] st) Q := by
  refine call_def (lc0 := (((((Lc.nil.set "items" (.loc I)).set "octets" (.bytes o)).set "kind" (.str kd.str)).set "operand" (optOp op)).set "before" (optOp obe)).set "after" (optOp oaf)) (by decide +kernel) (by decide +kernel) rfl rfl rfl ?_
  repeat (first | walk_at "m" | walk_at "e" | walk_at "s")
  refine span_ok hI hl hbe haf ?_
  have hs := @span_len o be af
  have q0 := q st Frame.rfl
  unfold takenL at q q0
  dsimp only at q q0
  generalize spanL o be af = span at *
  by_cases hc : kd = .chars
  · subst hc
    repeat (first | walk_at "m" | walk_at "e" | walk_at "s")
    exact q0
  obtain ⟨p, rfl, hp⟩ : ∃ p, op = some p ∧ p.get es 1 = some [u] := by cases kd <;> first | exact hop | exact absurd rfl hc
  have hk : decide (kd.str = Str.ofString "CHARACTERS") = false := by cases kd <;> first | decide | exact absurd rfl hc
  repeat (first | walk_at "m" | walk_at "e" | walk_at "s")
  refine neither hk ?_
  repeat (first | walk_at "m" | walk_at "e" | walk_at "s")
  refine filt_comp (pr := isAt o u) (B := 30) (Inv := fun s => s = st) (by omega) (by omega) ?_ rfl ?_
  · intro a m lc st' ha hst
    subst hst
    repeat (first | walk_at "m" | walk_at "e" | walk_at "s")
    refine fetch_ok (k := 1) hI hp (by omega) ?_
    refine ⟨_, rfl, ?_⟩
    rw [slice_at1]
    cases hz : isAt o u a with
    | true =>
      repeat (first | walk_at "m" | walk_at "e" | walk_at "s")
      refine ⟨rfl, fun _ => ?_, fun h => nomatch h⟩
      repeat (first | walk_at "m" | walk_at "e" | walk_at "s")
      exact ⟨rfl, rfl⟩
    | false =>
      repeat (first | walk_at "m" | walk_at "e" | walk_at "s")
      exact ⟨rfl, (fun h => nomatch h), fun _ => rfl⟩
  · intro st' hst
    subst hst
    have hh := List.length_filter_le (isAt o u) span
    generalize span.filter (isAt o u) = hits at *
    induction kd using Kd.casesOn with
    | chars => exact absurd rfl hc
    | all =>
      repeat (first | walk_at "m" | walk_at "e" | walk_at "s")
      exact q0
    | first =>
      repeat (first | walk_at "m" | walk_at "e" | walk_at "s")
      rw [show List.take (Int.toNat 1) (natsV hits) = natsV (hits.take 1) by unfold natsV; rw [List.map_take]; rfl]
      exact q0
    | lead =>
      repeat (first | walk_at "m" | walk_at "e" | walk_at "s")
      refine filt_comp (pr := leadIn span hits) (B := 60) (Inv := fun s => Frame (fun _ => False) st' s) (by omega) (by omega) ?_ Frame.rfl ?_
      · intro a m lc st2 ha hF
        repeat (first | walk_at "m" | walk_at "e" | walk_at "s")
        refine filt_comp (pr := fun b => decide (b ≤ a) && !hits.contains b) (B := 30) (Inv := fun s => s = st2) (by omega) (by omega) ?_ rfl ?_
        · intro b m lc2 st3 hb h3
          subst h3
          by_cases hba : b ≤ a
          · rw [decide_eq_true hba, Bool.true_and]
            repeat (first | walk_at "m" | walk_at "e" | walk_at "s")
            refine cmp_notin ?_
            cases hz : hits.contains b with
            | true =>
              repeat (first | walk_at "m" | walk_at "e" | walk_at "s")
              exact ⟨rfl, (fun h => nomatch h), fun _ => rfl⟩
            | false =>
              repeat (first | walk_at "m" | walk_at "e" | walk_at "s")
              refine ⟨rfl, fun _ => ?_, fun h => nomatch h⟩
              repeat (first | walk_at "m" | walk_at "e" | walk_at "s")
              exact ⟨rfl, rfl⟩
          · rw [decide_eq_false hba, Bool.false_and]
            repeat (first | walk_at "m" | walk_at "e" | walk_at "s")
            exact ⟨rfl, (fun h => nomatch h), fun _ => rfl⟩
        · intro st3 h3
          subst h3
          have hF2 : Frame (fun _ => False) st' (st3 ++ [MO.list []]) := hF.trans Frame.add
          repeat (first | walk_at "m" | walk_at "e" | walk_at "s")
          refine cmp_nilE (b := leadIn span hits a) app_new (by unfold leadIn natsV; rw [List.length_map]; cases (span.filter fun b => decide (b ≤ a) && !hits.contains b) <;> rfl) ?_
          cases hz : leadIn span hits a with
          | true =>
            repeat (first | walk_at "m" | walk_at "e" | walk_at "s")
            refine ⟨rfl, fun _ => ?_, fun h => nomatch h⟩
            repeat (first | walk_at "m" | walk_at "e" | walk_at "s")
            exact ⟨rfl, hF2⟩
          | false =>
            repeat (first | walk_at "m" | walk_at "e" | walk_at "s")
            exact ⟨rfl, (fun h => nomatch h), fun _ => hF2⟩
      · intro st2 hF
        repeat (first | walk_at "m" | walk_at "e" | walk_at "s")
        exact q _ hF
end
set_option maxHeartbeats 1000000
/-! the plain law: what the seekers take -/
theorem ffit_some {o : List UInt8} {a t : Nat} {ss : Nat → Sk} : ∀ {k}, ffit o a ss k = some t → t < k ∧ fitS o a (ss t) = true
  | 0, h => by cases h
  | k + 1, h => by
    unfold ffit at h
    split at h
    · rename_i e
      cases h
      have := ffit_some e
      exact ⟨by omega, this.2⟩
    · split at h
      · rename_i hf; cases h; exact ⟨by omega, hf⟩
      · cases h
theorem ffit_none {o : List UInt8} {a : Nat} {ss : Nat → Sk} : ∀ {k}, ffit o a ss k = none → ∀ i < k, fitS o a (ss i) = false
  | 0, _, i, hi => absurd hi (Nat.not_lt_zero _)
  | k + 1, h, i, hi => by
    unfold ffit at h
    split at h
    · cases h
    · rename_i e
      split at h
      · cases h
      · rename_i hf
        by_cases hik : i = k
        · subst hik; simpa using hf
        · exact ffit_none e i (by omega)
theorem ffit_iff {o : List UInt8} {a k i : Nat} {ss : Nat → Sk} (un : ∀ i j, i < k → j < k → fitS o a (ss i) = true → fitS o a (ss j) = true → i = j) : ffit o a ss k = some i ↔ i < k ∧ fitS o a (ss i) = true := by
  refine ⟨ffit_some, fun ⟨hi, hf⟩ => ?_⟩
  cases h : ffit o a ss k with
  | none => rw [ffit_none h i hi] at hf; cases hf
  | some j =>
    obtain ⟨hj, hfj⟩ := ffit_some h
    rw [un i j hi hj hf hfj]
noncomputable def stepT (o : List UInt8) (a : Nat) (s : Sk) : Sk := if fitS o a (reachS a s) then tookS a (reachS a s) else reachS a s
noncomputable def runT (o : List UInt8) (s : Sk) : Nat → Sk
  | 0 => s
  | a + 1 => stepT o a (runT o s a)
theorem reach_st {a : Nat} {s : Sk} : (reachS a s).kd = s.kd ∧ (reachS a s).u = s.u ∧ (reachS a s).b = s.b ∧ (reachS a s).e = s.e ∧ (reachS a s).d = s.d := by
  unfold reachS; split <;> exact ⟨rfl, rfl, rfl, rfl, rfl⟩
theorem took_st {a : Nat} {s : Sk} : (tookS a s).kd = s.kd ∧ (tookS a s).u = s.u ∧ (tookS a s).b = s.b ∧ (tookS a s).e = s.e := ⟨rfl, rfl, rfl, rfl⟩
theorem step_st {o : List UInt8} {a : Nat} {s : Sk} : (stepT o a s).kd = s.kd ∧ (stepT o a s).u = s.u ∧ (stepT o a s).b = s.b ∧ (stepT o a s).e = s.e := by
  obtain ⟨h1, h2, h3, h4, _⟩ := @reach_st a s
  unfold stepT; split <;> exact ⟨h1, h2, h3, h4⟩
theorem run_st {o : List UInt8} {s : Sk} : ∀ {a : Nat}, (runT o s a).kd = s.kd ∧ (runT o s a).u = s.u ∧ (runT o s a).b = s.b ∧ (runT o s a).e = s.e
  | 0 => ⟨rfl, rfl, rfl, rfl⟩
  | a + 1 => by
    obtain ⟨h1, h2, h3, h4⟩ := @run_st o s a
    obtain ⟨g1, g2, g3, g4⟩ := @step_st o a (runT o s a)
    exact ⟨g1.trans h1, g2.trans h2, g3.trans h3, g4.trans h4⟩
/-- one row of all octets, or rows of unlike octets -/
noncomputable def Un (k : Nat) (ss : Nat → Sk) : Prop := k = 1 ∨ ∀ i j, i < k → j < k → (ss i).kd ≠ .chars ∧ ((ss i).u = (ss j).u → i = j)
theorem fit_u {o : List UInt8} {a : Nat} {s : Sk} (h : fitS o a s = true) (hk : s.kd ≠ .chars) : o[a]? = some s.u := by
  unfold fitS at h
  simp only [Bool.and_eq_true] at h
  have h4 := h.2
  revert h4
  cases hs : s.kd with
  | chars => exact absurd hs hk
  | all => simp
  | first => simp
  | lead => simp
theorem run_solo {o : List UInt8} {k : Nat} {ss : Nat → Sk} (un : Un k ss) : ∀ a, (∀ i < k, runS o k ss a i = runT o (ss i) a) ∧ ∀ i, takerS o k ss a = some i ↔ i < k ∧ fitS o a (reachS a (runT o (ss i) a)) = true := by
  have key : ∀ a, (∀ i < k, runS o k ss a i = runT o (ss i) a) → ∀ i, takerS o k ss a = some i ↔ i < k ∧ fitS o a (reachS a (runT o (ss i) a)) = true := by
    intro a h i
    unfold takerS
    rw [ffit_iff]
    · constructor
      · intro ⟨h1, h2⟩; rw [h i h1] at h2; exact ⟨h1, h2⟩
      · intro ⟨h1, h2⟩; rw [h i h1]; exact ⟨h1, h2⟩
    · intro i j hi hj h1 h2
      rcases un with rfl | un
      · omega
      · rw [h i hi] at h1
        rw [h j hj] at h2
        obtain ⟨r1, r2, _⟩ := @reach_st a (runT o (ss i) a)
        obtain ⟨r3, r4, _⟩ := @reach_st a (runT o (ss j) a)
        obtain ⟨s1, s2, _⟩ := @run_st o (ss i) a
        obtain ⟨s3, s4, _⟩ := @run_st o (ss j) a
        have e1 := fit_u h1 (by rw [r1, s1]; exact (un i j hi hj).1)
        have e2 := fit_u h2 (by rw [r3, s3]; exact (un j i hj hi).1)
        rw [r2, s2] at e1
        rw [r4, s4] at e2
        exact (un i j hi hj).2 (Option.some.inj (e1.symm.trans e2))
  intro a
  induction a with
  | zero => exact ⟨fun i hi => rfl, key 0 fun i hi => rfl⟩
  | succ a ih =>
    have h1 : ∀ i < k, runS o k ss (a + 1) i = runT o (ss i) (a + 1) := by
      intro i hi
      show stepS o k a (runS o k ss a) i = stepT o a (runT o (ss i) a)
      unfold stepS stepT
      have := ih.2 i
      unfold takerS at this
      rw [ih.1 i hi]
      by_cases hf : fitS o a (reachS a (runT o (ss i) a)) = true
      · rw [if_pos (this.mpr ⟨hi, hf⟩), if_pos hf]
      · rw [if_neg fun h => hf (this.mp h).2, if_neg hf]
    exact ⟨h1, key (a + 1) h1⟩
/-- what a row takes, said plainly -/
noncomputable def TakeP (o : List UInt8) (kd : Kd) (u : UInt8) (b e a : Nat) : Prop := b ≤ a ∧ a < e ∧ (match kd with
  | .chars => True
  | .all => o[a]? = some u
  | .first => o[a]? = some u ∧ ∀ j, b ≤ j → j < a → o[j]? ≠ some u
  | .lead => ∀ j, b ≤ j → j ≤ a → o[j]? = some u)
noncomputable def Inv (o : List UInt8) (kd : Kd) (u : UInt8) (b e a : Nat) (s : Sk) : Prop := s.kd = kd ∧ s.u = u ∧ s.b = b ∧ s.e = e ∧ (kd ≠ .first → s.d = false) ∧ (kd = .first → (s.d = true ↔ ∃ j < a, b ≤ j ∧ j < e ∧ o[j]? = some u)) ∧
  (kd = .lead → (a ≤ b → s.ld = none) ∧ (b < a → a ≤ e → ∃ x ≤ a, s.ld = some x ∧ (x = a ↔ ∀ j, b ≤ j → j < a → o[j]? = some u)))
theorem fit_lead {o : List UInt8} {u : UInt8} {b e a : Nat} {s : Sk} (h : Inv o .lead u b e a s) : (fitS o a (reachS a s) = true ↔ TakeP o .lead u b e a) ∧ Inv o .lead u b e (a + 1) (stepT o a s) := by
  obtain ⟨kd, u, b, e, ld, d⟩ := s
  obtain ⟨h1, h2, h3, h4, h5, h6, h7⟩ := h
  dsimp only at h1 h2 h3 h4 h5 h6 h7
  subst h1 h2 h3 h4
  cases h5 (by decide)
  obtain ⟨h8, h9⟩ := h7 rfl
  by_cases hb : b ≤ a
  case neg =>
    cases h8 (by omega)
    have hr : reachS a ⟨.lead, u, b, e, none, false⟩ = ⟨.lead, u, b, e, none, false⟩ := if_neg fun h => hb h.2.1
    have hf : fitS o a ⟨.lead, u, b, e, none, false⟩ = false := by simp [fitS, hb]
    unfold stepT
    rw [hr, hf]
    refine ⟨⟨(fun h => nomatch h), fun h => absurd h.1 hb⟩, rfl, rfl, rfl, rfl, fun _ => rfl, (fun h => nomatch h), fun _ => ⟨fun _ => rfl, fun h => absurd h (by omega)⟩⟩
  by_cases he : a < e
  case neg =>
    have hf : ∀ l, fitS o a ⟨.lead, u, b, e, l, false⟩ = false := fun l => by simp [fitS]; omega
    have hr : reachS a ⟨.lead, u, b, e, ld, false⟩ = ⟨.lead, u, b, e, ld, false⟩ := if_neg fun h => he h.2.2
    unfold stepT
    rw [hr, hf]
    refine ⟨⟨(fun h => nomatch h), fun h => absurd h.2.1 he⟩, rfl, rfl, rfl, rfl, fun _ => rfl, (fun h => nomatch h), fun _ => ⟨fun h => absurd h (by omega), fun _ h => absurd h (by omega)⟩⟩
  have key : ∀ x, x ≤ a → (x = a ↔ ∀ j, b ≤ j → j < a → o[j]? = some u) → reachS a ⟨.lead, u, b, e, ld, false⟩ = ⟨.lead, u, b, e, some x, false⟩ →
      (fitS o a (reachS a ⟨.lead, u, b, e, ld, false⟩) = true ↔ TakeP o .lead u b e a) ∧ Inv o .lead u b e (a + 1) (stepT o a ⟨.lead, u, b, e, ld, false⟩) := by
    intro x hx hxa hr
    have hf : fitS o a ⟨.lead, u, b, e, some x, false⟩ = true ↔ x = a ∧ o[a]? = some u := by simp [fitS, hb]; omega
    have hall : (x = a ∧ o[a]? = some u) ↔ ∀ j, b ≤ j → j ≤ a → o[j]? = some u := by
      rw [hxa]
      constructor
      · intro ⟨h1, h2⟩ j hj hj'
        by_cases e : j = a
        · rw [e]; exact h2
        · exact h1 j hj (by omega)
      · intro h; exact ⟨fun j hj hj' => h j hj (by omega), h a hb (Nat.le_refl _)⟩
    unfold stepT
    rw [hr]
    refine ⟨?_, ?_⟩
    · rw [hf, hall]
      exact ⟨fun h => ⟨hb, he, h⟩, fun h => h.2.2⟩
    · have hall' : (∀ j, b ≤ j → j < a + 1 → o[j]? = some u) ↔ ∀ j, b ≤ j → j ≤ a → o[j]? = some u := ⟨fun h j hj hj' => h j hj (by omega), fun h j hj hj' => h j hj (by omega)⟩
      split
      · rename_i hft
        refine ⟨rfl, rfl, rfl, rfl, fun _ => rfl, (fun h => nomatch h), fun _ => ⟨fun h => absurd h (by omega), fun _ _ => ⟨a + 1, Nat.le_refl _, rfl, ?_⟩⟩⟩
        rw [hall', ← hall, ← hf]
        exact ⟨fun _ => hft, fun _ => rfl⟩
      · rename_i hft
        refine ⟨rfl, rfl, rfl, rfl, fun _ => rfl, (fun h => nomatch h), fun _ => ⟨fun h => absurd h (by omega), fun _ _ => ⟨x, by omega, rfl, ?_⟩⟩⟩
        rw [hall', ← hall, ← hf]
        exact ⟨fun h => absurd h (by omega), fun h => absurd h hft⟩
  by_cases hab : a ≤ b
  · cases h8 hab
    refine key a (Nat.le_refl _) ⟨fun _ j hj hj' => absurd hj (by omega), fun _ => rfl⟩ (if_pos ⟨rfl, hb, he⟩)
  · obtain ⟨x, hx, hl, hxa⟩ := h9 (by omega) (by omega)
    cases hl
    exact key x hx hxa (if_neg fun h => nomatch h.1)
theorem fit_first {o : List UInt8} {u : UInt8} {b e a : Nat} {s : Sk} (h : Inv o .first u b e a s) : (fitS o a (reachS a s) = true ↔ TakeP o .first u b e a) ∧ Inv o .first u b e (a + 1) (stepT o a s) := by
  obtain ⟨r1, r2, r3, r4, r5⟩ := @reach_st a s
  obtain ⟨h1, h2, h3, h4, h5, h6, h7⟩ := h
  replace h6 := h6 rfl
  unfold stepT
  generalize reachS a s = s' at *
  have hf : fitS o a s' = true ↔ s.d = false ∧ b ≤ a ∧ a < e ∧ o[a]? = some u := by
    unfold fitS
    rw [r1, r2, r3, r4, r5, h1, h2, h3, h4]
    simp only [Bool.and_eq_true, Bool.not_eq_true', decide_eq_true_eq, and_assoc]
    rw [show a + 1 ≤ e ↔ a < e from Iff.rfl]
  have ht : fitS o a s' = true ↔ TakeP o .first u b e a := by
    rw [hf]
    constructor
    · intro ⟨hd, hb, he, hu⟩
      refine ⟨hb, he, hu, fun j hj hj' hc => ?_⟩
      have := h6.mpr ⟨j, hj', hj, by omega, hc⟩
      rw [hd] at this; cases this
    · intro ⟨hb, he, hu, hj⟩
      refine ⟨?_, hb, he, hu⟩
      cases hd : s.d with
      | false => rfl
      | true =>
        obtain ⟨j, g1, g2, _, g4⟩ := h6.mp hd
        exact absurd g4 (hj j g2 g1)
  refine ⟨ht, ?_⟩
  split
  · rename_i hft
    refine ⟨r1.trans h1, r2.trans h2, r3.trans h3, r4.trans h4, fun h => absurd rfl h, fun _ => ?_, (fun h => nomatch h)⟩
    obtain ⟨_, hb, he, hu⟩ := hf.mp hft
    refine ⟨fun _ => ⟨a, by omega, hb, he, hu⟩, fun _ => ?_⟩
    show decide (s'.kd = .first) = true
    rw [r1, h1]; rfl
  · rename_i hft
    refine ⟨r1.trans h1, r2.trans h2, r3.trans h3, r4.trans h4, fun h => absurd rfl h, fun _ => ?_, (fun h => nomatch h)⟩
    rw [r5, h6]
    constructor
    · intro ⟨j, g1, g⟩; exact ⟨j, by omega, g⟩
    · intro ⟨j, g1, g2, g3, g4⟩
      by_cases e : j = a
      · subst e
        cases hd : s.d with
        | true => exact h6.mp hd
        | false => exact absurd (hf.mpr ⟨hd, g2, g3, g4⟩) hft
      · exact ⟨j, by omega, g2, g3, g4⟩
theorem fit_all {o : List UInt8} {u : UInt8} {b e a : Nat} {s : Sk} {kd : Kd} (hk : kd = .all ∨ kd = .chars) (h : Inv o kd u b e a s) : (fitS o a (reachS a s) = true ↔ TakeP o kd u b e a) ∧ Inv o kd u b e (a + 1) (stepT o a s) := by
  obtain ⟨r1, r2, r3, r4, r5⟩ := @reach_st a s
  obtain ⟨h1, h2, h3, h4, h5, h6, h7⟩ := h
  have hd := h5 (by rcases hk with rfl | rfl <;> decide)
  unfold stepT
  generalize reachS a s = s' at *
  refine ⟨?_, ?_⟩
  · unfold fitS TakeP
    rw [r1, r2, r3, r4, r5, h1, h2, h3, h4, hd]
    simp only [Bool.and_eq_true, decide_eq_true_eq, Bool.not_false, true_and, and_assoc]
    rw [show a + 1 ≤ e ↔ a < e from Iff.rfl]
    rcases hk with rfl | rfl <;> simp
  · split
    · refine ⟨r1.trans h1, r2.trans h2, r3.trans h3, r4.trans h4, fun h => ?_, fun h => ?_, fun h => ?_⟩
      · show decide (s'.kd = .first) = false
        rw [r1, h1]; exact decide_eq_false h
      · subst h; rcases hk with h | h <;> cases h
      · subst h; rcases hk with h | h <;> cases h
    · refine ⟨r1.trans h1, r2.trans h2, r3.trans h3, r4.trans h4, fun h => r5.trans hd, fun h => ?_, fun h => ?_⟩
      · subst h; rcases hk with h | h <;> cases h
      · subst h; rcases hk with h | h <;> cases h
theorem fit_any {o : List UInt8} {u : UInt8} {b e a : Nat} {s : Sk} {kd : Kd} (h : Inv o kd u b e a s) : (fitS o a (reachS a s) = true ↔ TakeP o kd u b e a) ∧ Inv o kd u b e (a + 1) (stepT o a s) := by
  induction kd using Kd.casesOn with
  | all => exact fit_all (.inl rfl) h
  | chars => exact fit_all (.inr rfl) h
  | lead => exact fit_lead h
  | first => exact fit_first h
theorem inv_run {o : List UInt8} {u : UInt8} {b e : Nat} {kd : Kd} : ∀ a, Inv o kd u b e a (runT o ⟨kd, u, b, e, none, false⟩ a)
  | 0 => ⟨rfl, rfl, rfl, rfl, fun _ => rfl, fun _ => ⟨(fun h => nomatch h), fun ⟨_, hj, _⟩ => absurd hj (Nat.not_lt_zero _)⟩, fun _ => ⟨fun _ => rfl, fun h => absurd h (Nat.not_lt_zero _)⟩⟩
  | a + 1 => (fit_any (inv_run a)).2
theorem taker_iff {o : List UInt8} {r : Nat → Rw} {k : Nat} (un : Un k fun i => skOf o (r i)) (a i : Nat) :
    takerS o k (fun i => skOf o (r i)) a = some i ↔ i < k ∧ TakeP o (r i).kd (r i).u (begOf o (r i).af) (endOf o (r i).be) a := by
  rw [(run_solo un a).2 i]
  show i < k ∧ fitS o a (reachS a (runT o ⟨(r i).kd, (r i).u, begOf o (r i).af, endOf o (r i).be, none, false⟩ a)) = true ↔ _
  rw [(fit_any (inv_run a)).1]
theorem mem_span {o : List UInt8} {be af : Option UInt8} {a : Nat} : a ∈ spanL o be af ↔ begOf o af ≤ a ∧ a < endOf o be := by
  unfold spanL
  rw [List.mem_range'_1]
  omega
theorem isAt_iff {o : List UInt8} {u : UInt8} {a : Nat} : isAt o u a = true ↔ o[a]? = some u := by unfold isAt; exact decide_eq_true_iff
theorem mem_take1 {p : Nat → Bool} {l : List Nat} {a : Nat} : a ∈ (l.filter p).take 1 ↔ l.find? p = some a := by
  rw [← List.head?_filter]
  cases l.filter p with
  | nil => simp
  | cons x r => simp [eq_comm]
theorem mem_taken {o : List UInt8} {kd : Kd} {u : UInt8} {be af : Option UInt8} {a : Nat} : a ∈ takenL o kd u be af ↔ TakeP o kd u (begOf o af) (endOf o be) a := by
  unfold takenL TakeP
  induction kd using Kd.casesOn with
  | chars => dsimp only; rw [mem_span]; simp
  | all => dsimp only; rw [List.mem_filter, mem_span, isAt_iff, and_assoc]
  | first =>
    dsimp only
    rw [mem_take1]
    unfold spanL
    rw [List.find?_range'_eq_some, List.mem_range'_1, isAt_iff]
    simp only [Bool.not_eq_true', ← Bool.not_eq_true, isAt_iff]
    constructor
    · intro ⟨h1, ⟨h2, h3⟩, h4⟩
      exact ⟨h2, by omega, h1, h4⟩
    · intro ⟨h1, h2, h3, h4⟩
      exact ⟨h3, ⟨h1, by omega⟩, h4⟩
  | lead =>
    dsimp only
    rw [List.mem_filter, List.mem_filter, mem_span, isAt_iff]
    unfold leadIn
    rw [List.isEmpty_iff, List.filter_eq_nil_iff]
    simp only [Bool.and_eq_true, decide_eq_true_eq, Bool.not_eq_true', mem_span]
    constructor
    · intro ⟨⟨⟨h1, h2⟩, h3⟩, h4⟩
      refine ⟨h1, h2, fun j hj hj' => ?_⟩
      have h5 := h4 j ⟨hj, by omega⟩
      have h6 : ((spanL o be af).filter (isAt o u)).contains j = true := by
        cases h7 : ((spanL o be af).filter (isAt o u)).contains j with
        | true => rfl
        | false => exact absurd ⟨hj', h7⟩ h5
      rw [List.contains_iff_mem, List.mem_filter] at h6
      exact isAt_iff.mp h6.2
    · intro ⟨h1, h2, h3⟩
      refine ⟨⟨⟨h1, h2⟩, h3 a h1 (Nat.le_refl _)⟩, fun j hj ⟨hja, hc⟩ => ?_⟩
      have h6 : ((spanL o be af).filter (isAt o u)).contains j = true := by
        rw [List.contains_iff_mem, List.mem_filter, mem_span]
        exact ⟨hj, isAt_iff.mpr (h3 j hj.1 hja)⟩
      rw [h6] at hc; cases hc
theorem taken_nodup {o : List UInt8} {kd : Kd} {u : UInt8} {be af : Option UInt8} : (takenL o kd u be af).Nodup := by
  have h : (spanL o be af).Nodup := by unfold spanL; exact List.nodup_range'
  unfold takenL
  induction kd using Kd.casesOn with
  | chars => exact h
  | all => exact h.filter _
  | first => exact (h.filter _).sublist (List.take_sublist _ _)
  | lead => exact (h.filter _).filter _
theorem countS_fil {o : List UInt8} {k : Nat} {ss : Nat → Sk} {i : Nat} : ∀ n, countS o k ss i n = ((List.range n).filter fun a => decide (takerS o k ss a = some i)).length
  | 0 => rfl
  | n + 1 => by
    unfold countS
    rw [filter_snoc, List.length_append, countS_fil n]
    by_cases h : takerS o k ss n = some i
    · rw [if_pos h, if_pos (decide_eq_true h)]; rfl
    · rw [if_neg h, if_neg (by simpa using h)]; rfl
theorem count_taken {o : List UInt8} {r : Nat → Rw} {k i : Nat} (un : Un k fun i => skOf o (r i)) (hi : i < k) :
    countS o k (fun i => skOf o (r i)) i o.length = (takenL o (r i).kd (r i).u (r i).be (r i).af).length := by
  rw [countS_fil]
  refine ((List.perm_ext_iff_of_nodup (List.nodup_range.filter _) taken_nodup).mpr fun a => ?_).length_eq
  rw [List.mem_filter, mem_taken, List.mem_range, decide_eq_true_iff, taker_iff un]
  have := @end_le o (r i).be
  exact ⟨fun h => h.2.2, fun h => ⟨by have := h.2.1; omega, hi, h⟩⟩
theorem mem_foundP {o : List UInt8} {k : Nat} {ss : Nat → Sk} {p : Nat × Nat} : ∀ {n}, p ∈ foundP o k ss n ↔ p.1 < n ∧ takerS o k ss p.1 = some p.2
  | 0 => ⟨(fun h => nomatch h), fun h => absurd h.1 (Nat.not_lt_zero _)⟩
  | n + 1 => by
    unfold foundP
    cases h : takerS o k ss n with
    | none =>
      dsimp only
      rw [mem_foundP]
      constructor
      · intro ⟨h1, h2⟩; exact ⟨by omega, h2⟩
      · intro ⟨h1, h2⟩
        refine ⟨?_, h2⟩
        by_cases e : p.1 = n
        · rw [e, h] at h2; cases h2
        · omega
    | some t =>
      dsimp only
      rw [List.mem_append, mem_foundP, List.mem_singleton]
      constructor
      · rintro (⟨h1, h2⟩ | rfl)
        · exact ⟨by omega, h2⟩
        · exact ⟨by dsimp only; omega, h⟩
      · intro ⟨h1, h2⟩
        by_cases e : p.1 = n
        · right
          rw [e, h] at h2
          cases p
          dsimp only at e h2
          cases h2; rw [e]
        · exact .inl ⟨by omega, h2⟩
theorem put_other {y : Nat → UInt8} {a : Nat} : ∀ {F : List (Nat × Nat)} {o : List UInt8}, (∀ p ∈ F, p.1 ≠ a) → (putAll o y F)[a]? = o[a]?
  | [], o, _ => rfl
  | p :: F, o, h => by
    show (putAll (o.set p.1 (y p.2)) y F)[a]? = _
    rw [put_other fun q hq => h q (.tail _ hq), List.getElem?_set_ne (h p (.head _))]
theorem put_there {y : Nat → UInt8} {a i : Nat} : ∀ {F : List (Nat × Nat)} {o : List UInt8}, (∀ p ∈ F, p.1 = a → p.2 = i) → (a, i) ∈ F → (putAll o y F)[a]? = (o.set a (y i))[a]?
  | [], o, _, h => nomatch h
  | p :: F, o, h, hm => by
    show (putAll (o.set p.1 (y p.2)) y F)[a]? = _
    by_cases hF : (a, i) ∈ F
    · rw [put_there (fun q hq => h q (.tail _ hq)) hF]
      by_cases ha : a < o.length
      · rw [List.getElem?_set_self (by rw [List.length_set]; exact ha), List.getElem?_set_self ha]
      · rw [List.getElem?_eq_none (by rw [List.length_set, List.length_set]; omega), List.getElem?_eq_none (by rw [List.length_set]; omega)]
    · rw [put_other]
      · rcases List.mem_cons.mp hm with rfl | hm
        · rfl
        · exact absurd hm hF
      · intro q hq e
        have := h q (.tail _ hq) e
        exact hF (by cases q; dsimp only at e this; rw [← e, ← this]; exact hq)
theorem put_same {y : Nat → UInt8} {F F' : List (Nat × Nat)} {o : List UInt8} (hm : ∀ p, p ∈ F ↔ p ∈ F') (hf : ∀ p ∈ F, ∀ q ∈ F, p.1 = q.1 → p.2 = q.2) : putAll o y F = putAll o y F' := by
  apply List.ext_getElem?
  intro a
  by_cases h : ∃ p ∈ F, p.1 = a
  · obtain ⟨p, hp, rfl⟩ := h
    rw [put_there (i := p.2) (fun q hq e => hf q hq p hp e) hp, put_there (i := p.2) (fun q hq e => hf q ((hm q).mpr hq) p hp e) ((hm p).mp hp)]
  · rw [put_other fun p hp e => h ⟨p, hp, e⟩, put_other fun p hp e => h ⟨p, (hm p).mpr hp, e⟩]
/-- what the rows take, row after row -/
noncomputable def allTaken (o : List UInt8) (r : Nat → Rw) (k : Nat) : List (Nat × Nat) := (List.range k).flatMap fun i => (takenL o (r i).kd (r i).u (r i).be (r i).af).map fun a => (a, i)
theorem put_taken {o : List UInt8} {r : Nat → Rw} {k : Nat} {y : Nat → UInt8} (un : Un k fun i => skOf o (r i)) : putAll o y (foundP o k (fun i => skOf o (r i)) o.length) = putAll o y (allTaken o r k) := by
  refine put_same ?_ ?_
  · intro p
    rw [mem_foundP, taker_iff un]
    unfold allTaken
    rw [List.mem_flatMap]
    have := @end_le o (r p.2).be
    constructor
    · intro ⟨h1, h2, h3⟩
      exact ⟨p.2, List.mem_range.mpr h2, List.mem_map.mpr ⟨p.1, mem_taken.mpr h3, rfl⟩⟩
    · intro ⟨i, hi, h⟩
      obtain ⟨a, ha, rfl⟩ := List.mem_map.mp h
      have h3 := mem_taken.mp ha
      have h4 := h3.2.1
      dsimp only at this ⊢
      exact ⟨by omega, List.mem_range.mp hi, h3⟩
  · intro p hp q hq e
    have h1 := (mem_foundP.mp hp).2
    have h2 := (mem_foundP.mp hq).2
    rw [e, h2] at h1
    exact (Option.some.inj h1).symm
/-! conversion -/
noncomputable def convR : List UInt8 → List UInt8 → UInt8 → UInt8
  | w :: ws, g :: gs, u => if w = u then g else convR ws gs u
  | _, _, u => u
theorem convR_eq : ∀ {w g : List UInt8} {u : UInt8}, w.length = g.length → convR w g u = convB w g u
  | [], [], u, _ => rfl
  | x :: w, y :: g, u, h => by
    unfold convR convB
    rw [List.findIdx?_cons]
    by_cases e : x = u
    · rw [if_pos e, beq_iff_eq.mpr e]; rfl
    · rw [if_neg e, beq_eq_false_iff_ne.mpr e, convR_eq (by simpa using h)]
      unfold convB
      simp only [Bool.false_eq_true, if_false]
      cases w.findIdx? (· == u) <;> rfl
theorem convR_drop {w g : List UInt8} {u : UInt8} {i : Nat} (hi : i < w.length) (h : w.length = g.length) : convR (w.drop i) (g.drop i) u = if w[i] = u then g[i] else convR (w.drop (i + 1)) (g.drop (i + 1)) u := by
  rw [List.drop_eq_getElem_cons hi, List.drop_eq_getElem_cons (by omega : i < g.length)]; rfl
set_option maxHeartbeats 1000000
/-! dicts that are compared -/
noncomputable def isIB : MV → Bool
  | .int _ => true
  | .bytes _ => true
  | _ => false
noncomputable def Pd (es : List (Str × MV)) : Prop := (es.map (·.1)).Nodup ∧ ∀ p ∈ es, isIB p.2 = true
theorem nodup_lookup {k : Str} {v : MV} : ∀ {es : List (Str × MV)}, (es.map (·.1)).Nodup → (k, v) ∈ es → es.lookup k = some v
  | [], _, h => nomatch h
  | (k', v') :: es, hd, h => by
    rw [List.map_cons, List.nodup_cons] at hd
    rw [List.lookup_cons]
    by_cases e : k = k'
    · subst e
      rw [beq_self_eq_true]
      rcases List.mem_cons.mp h with h | h
      · cases h; rfl
      · exact absurd (List.mem_map.mpr ⟨_, h, rfl⟩) hd.1
    · rw [beq_eq_false_iff_ne.mpr e]
      rcases List.mem_cons.mp h with h | h
      · cases h; exact absurd rfl e
      · exact nodup_lookup hd.2 h
theorem deqs_true {es : List (Str × MV)} : ∀ {l : List (Str × MV)}, (∀ p ∈ l, es.lookup p.1 = some p.2 ∧ isIB p.2 = true) → deqs l es = some true
  | [], _ => rfl
  | (k, v) :: l, h => by
    obtain ⟨h1, h2⟩ := h _ (.head _)
    have ih := deqs_true (es := es) fun p hp => h p (.tail _ hp)
    dsimp only at h1 h2
    unfold deqs
    rw [h1]
    show deqV v v (deqs l es) = some true
    rw [ih]
    induction v using MV.casesOn with
    | int i => show some (decide (i = i) && true) = _; rw [decide_eq_true rfl]; rfl
    | bytes b => show some (decide (b = b) && true) = _; rw [decide_eq_true rfl]; rfl
    | _ => exact Bool.noConfusion h2
theorem pd_deq {es : List (Str × MV)} (h : Pd es) : deq es es = some true := by
  unfold deq
  rw [if_pos rfl]
  exact deqs_true fun p hp => ⟨nodup_lookup h.1 hp, h.2 p hp⟩
theorem dput_keys {k : Str} {v : MV} : ∀ {es : List (Str × MV)}, (es.lookup k).isSome = true → (dput es k v).map (·.1) = es.map (·.1)
  | [], h => nomatch h
  | (k', v') :: es, h => by
    unfold dput
    by_cases e : k' = k
    · rw [if_pos e]; rfl
    · rw [if_neg e, List.map_cons, List.map_cons, dput_keys]
      rw [List.lookup_cons, beq_eq_false_iff_ne.mpr fun h => e h.symm] at h
      exact h
theorem dput_mem {k : Str} {v : MV} {p : Str × MV} : ∀ {es : List (Str × MV)}, p ∈ dput es k v → p ∈ es ∨ p.2 = v
  | [], h => by
    cases List.mem_singleton.mp h
    exact .inr rfl
  | (k', v') :: es, h => by
    unfold dput at h
    by_cases e : k' = k
    · rw [if_pos e] at h
      rcases List.mem_cons.mp h with rfl | h
      · exact .inr rfl
      · exact .inl (.tail _ h)
    · rw [if_neg e] at h
      rcases List.mem_cons.mp h with rfl | h
      · exact .inl (.head _)
      · rcases dput_mem h with h | h
        · exact .inl (.tail _ h)
        · exact .inr h
theorem pd_dput {k : Str} {v : MV} {es : List (Str × MV)} (h : Pd es) (hk : (es.lookup k).isSome = true) (hv : isIB v = true) : Pd (dput es k v) := by
  refine ⟨by rw [dput_keys hk]; exact h.1, fun p hp => ?_⟩
  rcases dput_mem hp with hp | hp
  · exact h.2 p hp
  · rw [hp]; exact hv
theorem pd_bumps {ns : List (Str × MV)} {xs : Nat → Str} {cs : Nat → Int} (h : Pd ns) : ∀ {k}, (∀ i < k, IsNum ns (xs i)) → Pd (bumps ns xs cs k)
  | 0, _ => h
  | k + 1, hn => by
    refine pd_dput (pd_bumps h fun i hi => hn i (by omega)) ?_ rfl
    have := isNum_bumps (cs := cs) (xs := xs) (hn k (by omega)) k
    unfold IsNum at this
    rw [this]; rfl
theorem bumps_congr {ns : List (Str × MV)} {xs : Nat → Str} {cs cs' : Nat → Int} : ∀ {k}, (∀ i < k, cs i = cs' i) → bumps ns xs cs k = bumps ns xs cs' k
  | 0, _ => rfl
  | k + 1, h => by
    unfold bumps
    rw [bumps_congr fun i hi => h i (by omega), h k (by omega)]
theorem call_dict_loc {P : MP} {n l : Nat} {es : List (Str × MV)} {st : St} {Q : MV → St → Prop} (h : st[l]? = some (.dict es)) (q : Q (.loc st.length) (st ++ [.dict es])) : W2 ((run P (n + 1)).call (.bi .dict) [.loc l] st) Q :=
  call_bi (by show Option.map _ (dictAt st l) = _; rw [dictAt_of h]; rfl) q
theorem cmp_dict {k l : Nat} {a b : List (Str × MV)} {st : St} {Q : Bool → Prop} (hk : st[k]? = some (.dict a)) (hl : st[l]? = some (.dict b)) (h : deq a b = some true) (q : Q true) : ∃ r, cmp .Eq (.loc k) (.loc l) st = some r ∧ Q r := by
  refine ⟨true, ?_, q⟩
  show Option.bind (dictAt st k) (fun x => (dictAt st l).bind fun y => deq x y) = _
  rw [dictAt_of hk, dictAt_of hl]
  exact h
theorem put_dict {l : Nat} {es : List (Str × MV)} {k : Str} {v : MV} {st : St} {Q : St → Prop} (hl : st[l]? = some (.dict es)) (h : (es.lookup k).isSome = true) (q : Q (st.set l (.dict (dput es k v)))) : ∃ st', setItemM (.loc l) (.str k) v st = some st' ∧ Q st' :=
  ⟨_, by show Option.bind (dictAt st l) _ = _; rw [dictAt_of hl]; exact if_pos h, q⟩
theorem Frame.lt {S : Nat → Prop} {a b : St} (h : Frame S a b) : a.length ≤ b.length := h.1
theorem Frame.put_new {st st' : St} {l : Nat} {o : MO} (h : Frame (fun _ => False) st st') (hl : st.length ≤ l) : Frame (fun _ => False) st (st'.set l o) :=
  ⟨by rw [List.length_set]; exact h.1, fun k hk hn => by rw [List.getElem?_set_ne (by omega)]; exact h.2 k hk hn⟩
/-- a frame whose changes lie beyond -/
theorem Frame.beyond {S : Nat → Prop} {a b c : St} (h : Frame (fun _ => False) a b) (h' : Frame S b c) (hs : ∀ l < a.length, ¬ S l) : Frame (fun _ => False) a c :=
  ⟨Nat.le_trans h.1 h'.1, fun l hl hn => (h'.2 l (Nat.lt_of_lt_of_le hl h.1) (hs l hl)).trans (h.2 l hl hn)⟩
noncomputable abbrev takenR (o : List UInt8) (r : Rw) : List Nat := takenL o r.kd r.u r.be r.af
noncomputable abbrev tdL (I D F C L : Nat) (x : Str) (o : List UInt8) : List (Str × MV) := [("items", .loc I), ("octets", .bytes o), ("ref", refV x), ("rows", .loc L), ("due", .loc D), ("fresh", .loc F), ("counted", .loc C)]
theorem tallydone_ok {I N L : Nat} {es ns : List (Str × MV)} {x : Str} {o : List UInt8} {t : Nat → TR} {r : Nat → Rw} {k : Nat} {st : St} {n : Nat} {Q : MV → St → Prop}
    (hI : st[I]? = some (.dict es)) (hN : st[N]? = some (.dict ns)) (hL : st[L]? = some (.list ((List.range k).map fun i => (t i).v))) (hx : es.lookup x = some (.bytes o)) (hl : o.length ≤ 16) (hk : k ≤ 8)
    (hr : ∀ i < k, RowOk es (t i) (r i)) (hn : ∀ i < k, IsNum ns (t i).x) (un : Un k fun i => skOf o (r i)) (pe : Pd es) (pn : Pd ns)
    (q : ∀ st', Frame (fun _ => False) st st' → Q (.bool true) st') :
    W2 ((run lawP (n+250)).call (.fn 302) [.loc I, .loc N, refV x, .loc L] st) Q := by
  refine call_def (lc0 := (((Lc.nil.set "items" (.loc I)).set "numbers" (.loc N)).set "ref" (refV x)).set "rows" (.loc L)) (by decide +kernel) (by decide +kernel) rfl rfl rfl ?_
  repeat (first | walk_at "m" | walk_at "e" | walk_at "s")
  refine item_dict hI hx ?_
  repeat (first | walk_at "m" | walk_at "e" | walk_at "s")
  refine call_dict_loc hN ?_
  repeat (first | walk_at "m" | walk_at "e" | walk_at "s")
  refine call_dict_loc (app_get hI) ?_
  repeat (first | walk_at "m" | walk_at "e" | walk_at "s")
  refine call_dict_loc (app_get (app_get hN)) ?_
  repeat (first | walk_at "m" | walk_at "e" | walk_at "s")
  have hD : (st ++ [MO.dict ns] ++ [MO.dict es] ++ [MO.dict ns])[st.length]? = some (.dict ns) := app_get (app_get app_new)
  have hF : (st ++ [MO.dict ns] ++ [MO.dict es] ++ [MO.dict ns])[(st ++ [MO.dict ns]).length]? = some (.dict es) := app_get app_new
  have hC : (st ++ [MO.dict ns] ++ [MO.dict es] ++ [MO.dict ns])[(st ++ [MO.dict ns] ++ [MO.dict es]).length]? = some (.dict ns) := app_new
  have hFr : Frame (fun _ => False) st (st ++ [MO.dict ns] ++ [MO.dict es] ++ [MO.dict ns]) := Frame.add.trans (Frame.add.trans Frame.add)
  have l1 : (st ++ [MO.dict ns]).length = st.length + 1 := by simp
  have l2 : (st ++ [MO.dict ns] ++ [MO.dict es]).length = st.length + 2 := by simp
  have l3 : (st ++ [MO.dict ns] ++ [MO.dict es] ++ [MO.dict ns]).length = st.length + 3 := by simp
  generalize (st ++ [MO.dict ns] ++ [MO.dict es] ++ [MO.dict ns]) = st3 at *
  generalize (st ++ [MO.dict ns] ++ [MO.dict es]).length = C at *
  generalize (st ++ [MO.dict ns]).length = F at *
  have hIl := (List.getElem?_eq_some_iff.mp hI).1
  have hNl := (List.getElem?_eq_some_iff.mp hN).1
  have hLl := (List.getElem?_eq_some_iff.mp hL).1
  refine loop_inv 130 k (fun i => .loc L i) (fun i => (t i).v) (fun i lc st' => Has lc (tdL I st.length F C L x o) ∧
      Frame (fun l => l = st.length) st3 st' ∧ st'[st.length]? = some (.dict (bumps ns (fun i => (t i).x) (fun i => (takenR o (r i)).length) i)))
    (fun _ => rfl) (fun i lc st' hi h => loc_next (h.2.1.get (hFr.get hL fun h => h) (by omega)) (rng_get hi)) (fun lc st' h => loc_end (h.2.1.get (hFr.get hL fun h => h) (by omega)) (by rw [rng_len]; exact Nat.le_refl _)) ?_ ?_ k 0 _ _ _ (by omega) (by omega)
    ⟨by walk_at "hasc", Frame.rfl, hD⟩
  · intro i m lc st' hi ⟨h1, hF', hd⟩
    have R := hr i hi
    have hnum := isNum_bumps (cs := fun i => ((takenR o (r i)).length : Int)) (xs := fun i => (t i).x) (hn i hi) i
    have hI' := hF'.get (hFr.get hI fun h => h) (by omega)
    repeat (first | walk_at "m" | walk_at "e" | walk_at "s")
    refine item_dict hd hnum ?_
    repeat (first | walk_at "m" | walk_at "e" | walk_at "s")
    rw [← R.kd]
    refine taken_ok hI' hl R.op R.be R.af ?_
    intro st'' hF''
    have hd' := hF''.get hd fun h => h
    repeat (first | walk_at "m" | walk_at "e" | walk_at "s")
    rw [List.length_map]
    refine put_dict hd' (by rw [show List.lookup _ _ = _ from hnum]; rfl) ?_
    repeat (first | walk_at "m" | walk_at "e" | walk_at "s")
    refine ⟨by walk_at "has", hF'.trans ((Frame.mono hF'' fun l _ h => h.elim).trans (Frame.put rfl)), ?_⟩
    exact set_get hd'
  · intro lc st' ⟨h1, hF', hd⟩
    have hL' := hF'.get (hFr.get hL fun h => h) (by omega)
    have hI' := hF'.get (hFr.get hI fun h => h) (by omega)
    have hFF := hF'.get hF (by omega)
    have hCC := hF'.get hC (by omega)
    have hlt := hF'.1
    repeat (first | walk_at "m" | walk_at "e" | walk_at "s")
    refine call_tup_of hL' ?_
    repeat (first | walk_at "m" | walk_at "e" | walk_at "s")
    refine hands_ok ?_
    repeat (first | walk_at "m" | walk_at "e" | walk_at "s")
    refine tally_ok app_new (app_get hFF) (app_get hCC) (by omega) hx hl hk hr hn ?_
    intro st4 hF4 hN4
    have hd4 := hF4.get (app_get hd) (by omega)
    have hF4' := hF4.get (app_get hFF) (by omega)
    have hI4 := hF4.get (app_get hI') (by omega)
    rw [bumps_congr fun i hi => by rw [count_taken un hi]] at hN4
    repeat (first | walk_at "m" | walk_at "e" | walk_at "s")
    refine cmp_dict hN4 hd4 (pd_deq (pd_bumps pn hn)) ?_
    repeat (first | walk_at "m" | walk_at "e" | walk_at "s")
    refine cmp_dict hF4' hI4 (pd_deq pe) ?_
    repeat (first | walk_at "m" | walk_at "e" | walk_at "s")
    refine q _ ?_
    refine Frame.beyond (Frame.beyond (Frame.beyond hFr hF' (by omega)) (Frame.add (S := fun _ => False)) (fun _ _ h => h)) hF4 (by omega)
set_option maxHeartbeats 1000000
noncomputable abbrev bytL (b : List UInt8) : List MV := b.map fun u => .int u.toNat
theorem bytesOf_byt : ∀ (b : List UInt8), bytesOf (bytL b) = some b
  | [] => rfl
  | u :: b => by
    have h := u.toNat_lt
    show (if (0 : Int) ≤ u.toNat ∧ (u.toNat : Int) < 256 then Option.map (UInt8.ofNat ((u.toNat : Int)).toNat :: ·) (bytesOf (bytL b)) else Option.none) = _
    rw [bytesOf_byt b, if_pos (by omega)]
    show some (UInt8.ofNat ((u.toNat : Int)).toNat :: b) = _
    rw [ofNat_toNat]
theorem call_list_byt {P : MP} {n : Nat} {b : List UInt8} {st : St} {Q : MV → St → Prop} (q : Q (.loc st.length) (st ++ [.list (bytL b)])) : W2 ((run P (n + 1)).call (.bi .list) [.bytes b] st) Q :=
  call_bi rfl q
theorem bytL_set {b : List UInt8} {a : Nat} {u : UInt8} : (bytL b).set a (.int u.toNat) = bytL (b.set a u) := by unfold bytL; rw [List.map_set]
theorem putAll_snoc {o : List UInt8} {y : Nat → UInt8} {F : List (Nat × Nat)} {p : Nat × Nat} : putAll o y (F ++ [p]) = (putAll o y F).set p.1 (y p.2) := by unfold putAll; rw [List.foldl_append]; rfl
theorem allTaken_succ {o : List UInt8} {r : Nat → Rw} {k : Nat} : allTaken o r (k + 1) = allTaken o r k ++ (takenR o (r k)).map fun a => (a, k) := by
  unfold allTaken
  rw [List.range_succ, List.flatMap_append]; simp
theorem take_snoc {α : Type} {l : List α} {j : Nat} (h : j < l.length) : l.take (j + 1) = l.take j ++ [l[j]] := by
  rw [List.take_add_one, List.getElem?_eq_getElem h]; rfl
noncomputable abbrev rdL (I N o F C L : Nat) (x : Str) : List (Str × MV) := [("items", .loc I), ("numbers", .loc N), ("ref", refV x), ("rows", .loc L), ("octets", .loc o), ("fresh", .loc F), ("counted", .loc C)]
theorem replacedone_ok {I N L : Nat} {es ns : List (Str × MV)} {x : Str} {o : List UInt8} {t : Nat → TB} {r : Nat → Rw} {y : Nat → UInt8} {k : Nat} {st : St} {n : Nat} {Q : MV → St → Prop}
    (hI : st[I]? = some (.dict es)) (hN : st[N]? = some (.dict ns)) (hL : st[L]? = some (.list ((List.range k).map fun i => (t i).v))) (hx : es.lookup x = some (.bytes o)) (hl : o.length ≤ 16) (hk : k ≤ 8)
    (hr : ∀ i < k, RowBOk es (t i) (r i) (y i)) (un : Un k fun i => skOf o (r i)) (pe : Pd es) (pn : Pd ns)
    (q : ∀ st', Frame (fun _ => False) st st' → Q (.bool true) st') :
    W2 ((run lawP (n+250)).call (.fn 309) [.loc I, .loc N, refV x, .loc L] st) Q := by
  refine call_def (lc0 := (((Lc.nil.set "items" (.loc I)).set "numbers" (.loc N)).set "ref" (refV x)).set "rows" (.loc L)) (by decide +kernel) (by decide +kernel) rfl rfl rfl ?_
  repeat (first | walk_at "m" | walk_at "e" | walk_at "s")
  refine item_dict hI hx ?_
  repeat (first | walk_at "m" | walk_at "e" | walk_at "s")
  have hO : (st ++ [MO.list (bytL o)] ++ [MO.dict es] ++ [MO.dict ns])[st.length]? = some (.list (bytL o)) := app_get (app_get app_new)
  refine call_dict_loc (app_get hI) ?_
  repeat (first | walk_at "m" | walk_at "e" | walk_at "s")
  refine call_dict_loc (app_get (app_get hN)) ?_
  repeat (first | walk_at "m" | walk_at "e" | walk_at "s")
  have hF : (st ++ [MO.list (bytL o)] ++ [MO.dict es] ++ [MO.dict ns])[(st ++ [MO.list (bytL o)]).length]? = some (.dict es) := app_get app_new
  have hC : (st ++ [MO.list (bytL o)] ++ [MO.dict es] ++ [MO.dict ns])[(st ++ [MO.list (bytL o)] ++ [MO.dict es]).length]? = some (.dict ns) := app_new
  have hFr : Frame (fun _ => False) st (st ++ [MO.list (bytL o)] ++ [MO.dict es] ++ [MO.dict ns]) := Frame.add.trans (Frame.add.trans Frame.add)
  have l1 : (st ++ [MO.list (bytL o)]).length = st.length + 1 := by simp
  have l2 : (st ++ [MO.list (bytL o)] ++ [MO.dict es]).length = st.length + 2 := by simp
  have l3 : (st ++ [MO.list (bytL o)] ++ [MO.dict es] ++ [MO.dict ns]).length = st.length + 3 := by simp
  generalize (st ++ [MO.list (bytL o)] ++ [MO.dict es] ++ [MO.dict ns]) = st3 at *
  generalize (st ++ [MO.list (bytL o)] ++ [MO.dict es]).length = C at *
  generalize (st ++ [MO.list (bytL o)]).length = F at *
  have hIl := (List.getElem?_eq_some_iff.mp hI).1
  have hNl := (List.getElem?_eq_some_iff.mp hN).1
  have hLl := (List.getElem?_eq_some_iff.mp hL).1
  have hL3 := hFr.get hL fun h => h
  have hI3 := hFr.get hI fun h => h
  have hN3 := hFr.get hN fun h => h
  refine loop_inv 150 k (fun i => .loc L i) (fun i => (t i).v) (fun i lc st' => Has lc (rdL I N st.length F C L x) ∧
      Frame (fun l => l = st.length) st3 st' ∧ st'[st.length]? = some (.list (bytL (putAll o y (allTaken o r i)))))
    (fun _ => rfl) (fun i lc st' hi h => loc_next (h.2.1.get hL3 (by omega)) (rng_get hi)) (fun lc st' h => loc_end (h.2.1.get hL3 (by omega)) (by rw [rng_len]; exact Nat.le_refl _)) ?_ ?_ k 0 _ _ _ (by omega) (by omega)
    ⟨by walk_at "hasc", Frame.rfl, hO⟩
  · intro i m lc st' hi ⟨h1, hF', ho⟩
    have R := hr i hi
    have hI' := hF'.get hI3 (by omega)
    repeat (first | walk_at "m" | walk_at "e" | walk_at "s")
    refine item_dict hI' hx ?_
    repeat (first | walk_at "m" | walk_at "e" | walk_at "s")
    rw [← R.kd]
    refine taken_ok hI' hl R.op R.be R.af ?_
    intro st'' hF''
    have ho' := hF''.get ho fun h => h
    have hmem : ∀ a ∈ takenR o (r i), a < o.length := fun a ha => by
      have h1 := (mem_taken.mp ha).2.1
      have h2 := @end_le o (r i).be
      omega
    refine ⟨_, rfl, ?_⟩
    have hlen : (takenR o (r i)).length ≤ 16 := by
      have := @count_taken o r k i un hi
      have h2 := @foundS_len o k (fun i => skOf o (r i)) o.length
      rw [foundS_eq, List.length_map] at h2
      rw [countS_eq] at this
      have h3 := List.countP_le_length (p := fun p : Nat × Nat => p.2 == i) (l := foundP o k (fun i => skOf o (r i)) o.length)
      unfold takenR
      omega
    rw [allTaken_succ]
    show W3 ((run lawP _).loop _ (.lst (natsV (takenR o (r i))) 0) _ _ _ _) _
    generalize takenR o (r i) = tk at *
    refine loop_inv 60 tk.length (fun j => .lst (natsV tk) j) (fun j => .int (tk.getD j 0 : Nat)) (fun j lc st' => Has lc (rdL I N st.length F C L x) ∧ lc "by" = some (t i).y.v ∧
      Frame (fun l => l = st.length) st3 st' ∧ st'[st.length]? = some (.list (bytL (putAll o y (allTaken o r i ++ (tk.take j).map fun a => (a, i))))))
      (fun _ => rfl) (fun j lc st hj h => lst_next (by rw [List.getElem?_map, List.getElem?_eq_getElem hj, List.getD_eq_getElem?_getD, List.getElem?_eq_getElem hj]; rfl)) (fun lc st h => lst_end (by rw [List.length_map]; exact Nat.le_refl _)) ?_ ?_ tk.length 0 _ _ _ (by omega) (by omega)
      ⟨by walk_at "has", by walk_at "lc", hF'.trans (Frame.mono hF'' fun l _ h => h.elim), by rw [List.take_zero, List.map_nil, List.append_nil]; exact ho'⟩
    · intro j m lc st4 hj ⟨h1, h8, hF4, ho4⟩
      have hI4 := hF4.get hI3 (by omega)
      have ha : tk.getD j 0 = tk[j] := by rw [List.getD_eq_getElem?_getD, List.getElem?_eq_getElem hj]; rfl
      have hlt := hmem _ (List.getElem_mem hj)
      rw [ha]
      repeat (first | walk_at "m" | walk_at "e" | walk_at "s")
      refine fetch_ok (k := 1) hI4 R.y (by omega) ?_
      repeat (first | walk_at "m" | walk_at "e" | walk_at "s")
      refine put_loc ho4 (by rw [List.length_map, putAll_len]; exact hlt) ?_
      repeat (first | walk_at "m" | walk_at "e" | walk_at "s")
      refine ⟨by walk_at "has", by walk_at "lc", hF4.trans (Frame.put rfl), ?_⟩
      rw [set_get ho4, take_snoc hj, List.map_append, ← List.append_assoc]
      refine congrArg (fun x => some (MO.list x)) ?_
      show (bytL _).set _ (MV.int (y i).toNat) = bytL (putAll o y (_ ++ [(tk[j], i)]))
      rw [putAll_snoc, bytL_set]
    · intro lc st4 ⟨h1, h8, hF4, ho4⟩
      rw [List.take_length] at ho4
      repeat (first | walk_at "m" | walk_at "e" | walk_at "s")
      exact ⟨by walk_at "has", hF4, ho4⟩
  · intro lc st' ⟨h1, hF', ho⟩
    have hL' := hF'.get hL3 (by omega)
    have hI' := hF'.get hI3 (by omega)
    have hN' := hF'.get hN3 (by omega)
    have hFF := hF'.get hF (by omega)
    have hCC := hF'.get hC (by omega)
    have hlt := hF'.1
    repeat (first | walk_at "m" | walk_at "e" | walk_at "s")
    refine call_tup_of hL' ?_
    repeat (first | walk_at "m" | walk_at "e" | walk_at "s")
    refine hands_ok ?_
    repeat (first | walk_at "m" | walk_at "e" | walk_at "s")
    refine replace_ok app_new (app_get hFF) (by omega) hx hl hk hr ?_
    intro st4 hF4 hFn
    have ho4 := hF4.get (app_get ho) (by omega)
    have hI4 := hF4.get (app_get hI') (by omega)
    have hN4 := hF4.get (app_get hN') (by omega)
    have hC4 := hF4.get (app_get hCC) (by omega)
    rw [put_taken un] at hFn
    have hl4 := hF4.1
    rw [List.length_append, List.length_singleton] at hl4
    repeat (first | walk_at "m" | walk_at "e" | walk_at "s")
    refine call_dict_loc hI4 ?_
    repeat (first | walk_at "m" | walk_at "e" | walk_at "s")
    refine call_bytes_loc (app_get ho4) (bytesOf_byt _) ?_
    repeat (first | walk_at "m" | walk_at "e" | walk_at "s")
    refine put_dict app_new (by rw [hx]; rfl) ?_
    rw [set_app_new]
    repeat (first | walk_at "m" | walk_at "e" | walk_at "s")
    refine cmp_dict (app_get hC4) (app_get hN4) (pd_deq pn) ?_
    repeat (first | walk_at "m" | walk_at "e" | walk_at "s")
    refine cmp_dict (app_get hFn) app_new (pd_deq (pd_dput pe (by rw [hx]; rfl) rfl)) ?_
    repeat (first | walk_at "m" | walk_at "e" | walk_at "s")
    refine q _ ?_
    refine Frame.trans (Frame.beyond (Frame.beyond (Frame.beyond hFr hF' (by omega)) (Frame.add (S := fun _ => False)) (fun _ _ h => h)) hF4 (by omega)) Frame.add
set_option maxHeartbeats 1000000
theorem call_range3 {P : MP} {n : Nat} {st : St} {Q : MV → St → Prop} {a b : Int} (h : smallR a b = true) (q : Q (.rng a b (-1)) st) : W2 ((run P (n + 1)).call (.bi .range) [.int a, .int b, .int (-1)] st) Q :=
  call_bi (by show Option.map (fun r => (r, st)) (if smallR a b = true ∧ ((-1 : Int) = 1 ∨ (-1 : Int) = -1) then some (MV.rng a b (-1)) else Option.none) = _; rw [if_pos ⟨h, .inr rfl⟩]; rfl) q
theorem it_dn {k : Nat} {st : St} {Q : It → Prop} (h : k ≤ 1000) (q : Q (dnAt ((k : Int) - 1) k 0)) : ∃ i, itOf (.rng ((k : Int) - 1) (-1) (-1)) st = some i ∧ Q i := by
  refine ⟨_, ?_, q⟩
  show (if _ then _ else _) = _
  rw [smallR_of (by omega) (by omega) (by omega) (by omega), if_pos (by simp)]
  show some (It.rng ((k : Int) - 1) (-1) (rangeLen ((k : Int) - 1) (-1) (-1))) = some (It.rng ((k : Int) - 1 - ((0 : Nat) : Int)) (-1) (k - 0))
  rw [show rangeLen ((k : Int) - 1) (-1) (-1) = k by unfold rangeLen; rw [if_neg (by decide), if_pos rfl]; omega, Int.natCast_zero, Int.sub_zero, Nat.sub_zero]
theorem convO_len {o w g : List UInt8} {b e : Nat} : (convO o w g b e).length = o.length := by unfold convO; simp
theorem convO_start {o w g : List UInt8} {b : Nat} : convO o w g b b = o := by
  unfold convO
  apply List.ext_getElem?
  intro i
  by_cases h : i < o.length
  · rw [rng_get h, List.getElem?_eq_getElem h]
    unfold convAt
    rw [if_neg (by omega), List.getD_eq_getElem?_getD, List.getElem?_eq_getElem h]; rfl
  · rw [List.getElem?_eq_none (by rw [rng_len]; omega), List.getElem?_eq_none (by omega)]
theorem convO_step {o w g : List UInt8} {b i : Nat} : (convO o w g b (b + i)).set (b + i) (convB w g (o.getD (b + i) 0)) = convO o w g b (b + (i + 1)) := by
  refine rng_set ?_ ?_
  · unfold convAt
    rw [if_pos (by omega)]
  · intro j hj
    unfold convAt
    by_cases h : b ≤ j ∧ j < b + i
    · rw [if_pos h, if_pos (by omega)]
    · rw [if_neg h, if_neg (by omega)]
theorem convO_keep {o w g : List UInt8} {b i : Nat} (h : b + i < o.length) : (convO o w g b (b + i)).set (b + i) (o.getD (b + i) 0) = convO o w g b (b + i) := by
  refine rng_set ?_ ?_
  · unfold convAt
    rw [if_neg (by omega)]
  · intro j hj; rfl
theorem toNat_eq {u v : UInt8} : decide ((u.toNat : Int) = (v.toNat : Int)) = decide (v = u) := by
  apply decide_eq_decide.mpr
  rw [Int.ofNat_inj, UInt8.toNat_inj]
  exact eq_comm
noncomputable abbrev cvL (I N o F C : Nat) (x : Str) (w g : List UInt8) (ow og : Op) (obe oaf : Option Op) : List (Str × MV) :=
  [("items", .loc I), ("numbers", .loc N), ("ref", refV x), ("octets", .loc o), ("fresh", .loc F), ("counted", .loc C), ("row", .bytes w), ("laid", .bytes g), ("wanted", ow.v), ("given", og.v), ("before", optOp obe), ("after", optOp oaf)]
theorem convertdone_ok {I N : Nat} {es ns : List (Str × MV)} {x : Str} {o w g : List UInt8} {ow og : Op} {obe oaf : Option Op} {be af : Option UInt8} {st : St} {n : Nat} {Q : MV → St → Prop}
    (hI : st[I]? = some (.dict es)) (hN : st[N]? = some (.dict ns)) (hx : es.lookup x = some (.bytes o)) (hl : o.length ≤ 16)
    (hw : ow.get es 1 = some w) (hwl : w.length ≤ 20) (hg : og.get es w.length = some g) (hgl : w.length = g.length) (hbe : OneOf es obe be) (haf : OneOf es oaf af) (pe : Pd es) (pn : Pd ns)
    (q : ∀ st', Frame (fun _ => False) st st' → Q (.bool true) st') :
    W2 ((run lawP (n+250)).call (.fn 316) [.loc I, .loc N, refV x, ow.v, og.v, optOp obe, optOp oaf] st) Q := by
  refine call_def (lc0 := ((((((Lc.nil.set "items" (.loc I)).set "numbers" (.loc N)).set "ref" (refV x)).set "wanted" ow.v).set "given" og.v).set "before" (optOp obe)).set "after" (optOp oaf)) (by decide +kernel) (by decide +kernel) rfl rfl rfl ?_
  repeat (first | walk_at "m" | walk_at "e" | walk_at "s")
  refine item_dict hI hx ?_
  repeat (first | walk_at "m" | walk_at "e" | walk_at "s")
  have hO : (st ++ [MO.list (bytL o)] ++ [MO.dict es] ++ [MO.dict ns])[st.length]? = some (.list (bytL o)) := app_get (app_get app_new)
  refine call_dict_loc (app_get hI) ?_
  repeat (first | walk_at "m" | walk_at "e" | walk_at "s")
  refine call_dict_loc (app_get (app_get hN)) ?_
  repeat (first | walk_at "m" | walk_at "e" | walk_at "s")
  have hF : (st ++ [MO.list (bytL o)] ++ [MO.dict es] ++ [MO.dict ns])[(st ++ [MO.list (bytL o)]).length]? = some (.dict es) := app_get app_new
  have hC : (st ++ [MO.list (bytL o)] ++ [MO.dict es] ++ [MO.dict ns])[(st ++ [MO.list (bytL o)] ++ [MO.dict es]).length]? = some (.dict ns) := app_new
  have hFr : Frame (fun _ => False) st (st ++ [MO.list (bytL o)] ++ [MO.dict es] ++ [MO.dict ns]) := Frame.add.trans (Frame.add.trans Frame.add)
  have l1 : (st ++ [MO.list (bytL o)]).length = st.length + 1 := by simp
  have l2 : (st ++ [MO.list (bytL o)] ++ [MO.dict es]).length = st.length + 2 := by simp
  have l3 : (st ++ [MO.list (bytL o)] ++ [MO.dict es] ++ [MO.dict ns]).length = st.length + 3 := by simp
  generalize (st ++ [MO.list (bytL o)] ++ [MO.dict es] ++ [MO.dict ns]) = st3 at *
  generalize (st ++ [MO.list (bytL o)] ++ [MO.dict es]).length = C at *
  generalize (st ++ [MO.list (bytL o)]).length = F at *
  have hIl := (List.getElem?_eq_some_iff.mp hI).1
  have hNl := (List.getElem?_eq_some_iff.mp hN).1
  have hI3 := hFr.get hI fun h => h
  have hN3 := hFr.get hN fun h => h
  refine fetch_ok (k := 1) hI3 hw (by omega) ?_
  repeat (first | walk_at "m" | walk_at "e" | walk_at "s")
  refine fetch_ok hI3 hg (by omega) ?_
  repeat (first | walk_at "m" | walk_at "e" | walk_at "s")
  refine item_dict hI3 hx ?_
  repeat (first | walk_at "m" | walk_at "e" | walk_at "s")
  refine span_ok hI3 hl hbe haf ?_
  refine ⟨_, rfl, ?_⟩
  have hb1 := @beg_le o af
  have he1 := @end_le o be
  show W3 ((run lawP _).loop _ (.lst (natsV (spanL o be af)) 0) _ _ _ _) _
  unfold spanL
  generalize hbg : begOf o af = b at *
  generalize hen : endOf o be = e at *
  have hval : ∀ i < e - b, (natsV (List.range' b (e - b)))[i]? = some (.int (b + i : Nat)) := fun i hi => by
    rw [List.getElem?_map, List.getElem?_range' hi, Nat.one_mul]; rfl
  have hlen : (natsV (List.range' b (e - b))).length = e - b := by simp
  refine loop_inv 50 (e - b) (fun i => .lst (natsV (List.range' b (e - b))) i) (fun i => .int (b + i : Nat)) (fun i lc st' => Has lc (cvL I N st.length F C x w g ow og obe oaf) ∧
      Frame (fun l => l = st.length) st3 st' ∧ st'[st.length]? = some (.list (bytL (convO o w g b (b + i)))))
    (fun _ => rfl) (fun i lc st' hi h => lst_next (hval i hi)) (fun lc st' h => lst_end (Nat.le_of_eq hlen)) ?_ ?_ (e - b) 0 _ _ _ (by omega) (by omega)
    ⟨by walk_at "hasc", Frame.rfl, by rw [Nat.add_zero, convO_start]; exact hO⟩
  · intro i m lc st' hi ⟨h1, hF', ho⟩
    have hlt : b + i < o.length := by omega
    have hoa : o[b + i]? = some (o.getD (b + i) 0) := by rw [List.getD_eq_getElem?_getD, List.getElem?_eq_getElem hlt]; rfl
    have hkeep := @convO_keep o w g b i hlt
    have hstep := @convO_step o w g b i
    have hOl := @convO_len o w g b (b + i)
    rw [← convR_eq hgl] at hstep
    rw [← hstep]
    generalize convO o w g b (b + i) = X at *
    generalize o.getD (b + i) 0 = u at *
    generalize b + i = a at *
    repeat (first | walk_at "m" | walk_at "e" | walk_at "s")
    refine call_range3 (smallR_of (by omega) (by omega) (by omega) (by omega)) ?_
    refine it_dn (by omega) ?_
    refine loop_inv 25 w.length (dnAt ((w.length : Int) - 1) w.length) (fun q => .int ((w.length : Int) - 1 - q)) (fun q lc st' => lc "at" = some (.int (a : Nat)) ∧ Has lc (cvL I N st.length F C x w g ow og obe oaf) ∧
      Frame (fun l => l = st.length) st3 st' ∧ st'[st.length]? = some (.list (bytL (X.set a (convR (w.drop (w.length - q)) (g.drop (w.length - q)) u)))))
      (fun _ => rfl) (fun i lc st' hi h => dnAt_next hi) (fun lc st' h => dnAt_end) ?_ ?_ w.length 0 _ _ _ (by omega) (by omega)
      ⟨by walk_at "lc", by walk_at "has", hF', ?_⟩
    · intro q m lc st4 hq ⟨h0, h1, hF4, ho4⟩
      have hI4 := hF4.get hI3 (by omega)
      obtain ⟨p, hp⟩ : ∃ p, p = w.length - (q + 1) := ⟨_, rfl⟩
      have hpl : p < w.length := by omega
      rw [show (w.length : Int) - 1 - q = (p : Nat) by omega]
      have hdr := @convR_drop w g u p hpl hgl
      rw [show w.length - (q + 1) = p from hp.symm]
      rw [show w.length - q = p + 1 by omega] at ho4
      repeat (first | walk_at "m" | walk_at "e" | walk_at "s")
      refine item_dict hI4 hx ?_
      repeat (first | walk_at "m" | walk_at "e" | walk_at "s")
      refine item_bytes hoa ?_
      repeat (first | walk_at "m" | walk_at "e" | walk_at "s")
      refine item_bytes (List.getElem?_eq_getElem hpl) ?_
      repeat (first | walk_at "m" | walk_at "e" | walk_at "s")
      rw [toNat_eq]
      by_cases hwu : w[p] = u
      · rw [if_pos hwu] at hdr
        refine both (decide_eq_true hwu) ?_
        repeat (first | walk_at "m" | walk_at "e" | walk_at "s")
        refine item_bytes (List.getElem?_eq_getElem (by omega : p < g.length)) ?_
        repeat (first | walk_at "m" | walk_at "e" | walk_at "s")
        refine put_loc ho4 (by rw [List.length_map, List.length_set, hOl]; exact hlt) ?_
        repeat (first | walk_at "m" | walk_at "e" | walk_at "s")
        refine ⟨by walk_at "lc", by walk_at "has", hF4.trans (Frame.put rfl), ?_⟩
        rw [set_get ho4, bytL_set, List.set_set, hdr]
      · rw [if_neg hwu] at hdr
        refine neither (decide_eq_false hwu) ?_
        repeat (first | walk_at "m" | walk_at "e" | walk_at "s")
        refine ⟨by walk_at "lc", by walk_at "has", hF4, ?_⟩
        rw [ho4, hdr]
    · intro lc st4 ⟨h0, h1, hF4, ho4⟩
      rw [Nat.sub_self, List.drop_zero, List.drop_zero] at ho4
      repeat (first | walk_at "m" | walk_at "e" | walk_at "s")
      exact ⟨by walk_at "has", hF4, ho4⟩
    · rw [Nat.sub_zero, List.drop_length, hgl, List.drop_length]
      show _ = some (MO.list (bytL (X.set a u)))
      rw [hkeep]; exact ho
  · intro lc st' ⟨h1, hF', ho⟩
    have hI' := hF'.get hI3 (by omega)
    have hN' := hF'.get hN3 (by omega)
    have hFF := hF'.get hF (by omega)
    have hCC := hF'.get hC (by omega)
    have hlt := hF'.1
    have hfin : convO o w g b (b + (e - b)) = convO o w g b e := by
      unfold convO
      apply List.map_congr_left
      intro j _
      unfold convAt
      by_cases h : b ≤ j ∧ j < e
      · rw [if_pos h, if_pos (by omega)]
      · rw [if_neg h, if_neg (by omega)]
    rw [hfin] at ho
    repeat (first | walk_at "m" | walk_at "e" | walk_at "s")
    refine hands_ok ?_
    repeat (first | walk_at "m" | walk_at "e" | walk_at "s")
    refine convert_ok app_new (app_get hFF) hx hl hw (by omega) hg hgl hbe haf ?_
    intro st4 hF4 hFn
    rw [hbg, hen] at hFn
    have ho4 := hF4.get (app_get ho) (by omega)
    have hI4 := hF4.get (app_get hI') (by omega)
    have hN4 := hF4.get (app_get hN') (by omega)
    have hC4 := hF4.get (app_get hCC) (by omega)
    have hl4 := hF4.1
    rw [List.length_append, List.length_singleton] at hl4
    repeat (first | walk_at "m" | walk_at "e" | walk_at "s")
    refine call_dict_loc hI4 ?_
    repeat (first | walk_at "m" | walk_at "e" | walk_at "s")
    refine call_bytes_loc (app_get ho4) (bytesOf_byt _) ?_
    repeat (first | walk_at "m" | walk_at "e" | walk_at "s")
    refine put_dict app_new (by rw [hx]; rfl) ?_
    rw [set_app_new]
    repeat (first | walk_at "m" | walk_at "e" | walk_at "s")
    refine cmp_dict (app_get hC4) (app_get hN4) (pd_deq pn) ?_
    repeat (first | walk_at "m" | walk_at "e" | walk_at "s")
    refine cmp_dict (app_get hFn) app_new (pd_deq (pd_dput pe (by rw [hx]; rfl) rfl)) ?_
    repeat (first | walk_at "m" | walk_at "e" | walk_at "s")
    refine q _ ?_
    refine Frame.trans (Frame.beyond (Frame.beyond (Frame.beyond hFr hF' (by omega)) (Frame.add (S := fun _ => False)) (fun _ _ h => h)) hF4 (by omega)) Frame.add
set_option maxHeartbeats 1000000
/-! what is drawn -/
noncomputable def uO : Option Op → UInt8
  | some (.text (u :: _)) => u
  | some (.fig f) => f.u
  | some (.ref _) => 66
  | _ => 0
/-- the octet of an edge, where E holds eu -/
noncomputable def uE (eu : UInt8) : Option Op → Option UInt8
  | none => none
  | some (.text (u :: _)) => some u
  | some (.fig f) => some f.u
  | some (.ref _) => some eu
  | _ => none
theorem bases_get {es : List (Str × MV)} (hB : es.lookup ("B" : Str) = some (.bytes [66])) {p : Op} (hp : p ∈ bases) : p.get es 1 = some [uO (some p)] := by
  rcases List.mem_cons.mp hp with rfl | hp
  · rfl
  rcases List.mem_cons.mp hp with rfl | hp
  · rfl
  rcases List.mem_cons.mp hp with rfl | hp
  · show byt? (es.lookup ("B" : Str)) = _; rw [hB]; rfl
  cases List.mem_singleton.mp hp
  rfl
theorem edges_get {es : List (Str × MV)} {eu : UInt8} (hE : es.lookup ("E" : Str) = some (.bytes [eu])) {o : Option Op} (ho : o ∈ edges) : OneOf es o (uE eu o) := by
  rcases List.mem_cons.mp ho with rfl | ho
  · trivial
  rcases List.mem_cons.mp ho with rfl | ho
  · trivial
  rcases List.mem_cons.mp ho with rfl | ho
  · rfl
  rcases List.mem_cons.mp ho with rfl | ho
  · rfl
  rcases List.mem_cons.mp ho with rfl | ho
  · show byt? (es.lookup ("E" : Str)) = _; rw [hE]; rfl
  cases List.mem_singleton.mp ho
  rfl
theorem rotD_mem {f d : Nat} {p : Op} (h : p ∈ rotD f d) : p ∈ bases := by
  have h1 := List.mem_of_mem_take h
  rcases List.mem_append.mp h1 with h | h
  · exact List.mem_of_mem_drop h
  · exact List.mem_of_mem_take h
theorem rotD_nodup : ∀ f < 4, ∀ d < 4, ((rotD f d).map fun p => uO (some p)).Nodup := by decide
theorem drawn_le {ks : List Kd} {k : Nat} {kd : Nat → Kd} {op : Nat → Option Op} (h : Drawn ks k kd op) : k ≤ 4 := by
  rcases h with ⟨rfl, _⟩ | ⟨f, d, hf, hd, rfl, _⟩ <;> omega
theorem drawn_kof {es : List (Str × MV)} {ks : List Kd} {k : Nat} {kd : Nat → Kd} {op : Nat → Option Op} (h : Drawn ks k kd op) (hk : ∀ x ∈ ks, x ≠ .chars) (hB : es.lookup ("B" : Str) = some (.bytes [66])) {i : Nat} (hi : i < k) : KOf es (op i) (kd i) (uO (op i)) := by
  rcases h with ⟨rfl, h1, h2⟩ | ⟨f, d, hf, hd, rfl, h⟩
  · cases (show i = 0 by omega)
    rw [h1, h2]; rfl
  · obtain ⟨h1, h2⟩ := h i hi
    have hlen := rotD_len hf hd
    rw [List.getElem?_eq_getElem (by omega)] at h2
    rw [h2]
    have hg := bases_get hB (rotD_mem (List.getElem_mem (by omega : i < (rotD f d).length)))
    have hne := hk _ h1
    generalize kd i = kk at *
    induction kk using Kd.casesOn with
    | chars => exact absurd rfl hne
    | all => exact ⟨_, rfl, hg⟩
    | lead => exact ⟨_, rfl, hg⟩
    | first => exact ⟨_, rfl, hg⟩
theorem drawn_un {o : List UInt8} {ks : List Kd} {k : Nat} {kd : Nat → Kd} {op : Nat → Option Op} {be af : Nat → Option UInt8} (h : Drawn ks k kd op) (hk : ∀ x ∈ ks, x ≠ .chars) : Un k fun i => skOf o ⟨kd i, uO (op i), be i, af i⟩ := by
  rcases h with ⟨rfl, h1, h2⟩ | ⟨f, d, hf, hd, rfl, h⟩
  · exact .inl rfl
  · refine .inr fun i j hi hj => ⟨hk _ (h i hi).1, fun e => ?_⟩
    replace e : uO (op i) = uO (op j) := e
    have hlen := rotD_len hf hd
    have hnd := rotD_nodup f hf d hd
    rw [(h i hi).2, (h j hj).2, List.getElem?_eq_getElem (by omega), List.getElem?_eq_getElem (by omega)] at e
    have e2 : ((rotD f d).map fun p => uO (some p))[i]? = ((rotD f d).map fun p => uO (some p))[j]? := by
      rw [List.getElem?_map, List.getElem?_map, List.getElem?_eq_getElem (by omega), List.getElem?_eq_getElem (by omega)]; exact congrArg some e
    exact (List.getElem?_inj (i := i) (by rw [List.length_map]; omega) hnd).mp e2
noncomputable def bys : List Op := [.text [121], .fig .space, .ref "E", .text [65]]
noncomputable def uY (eu : UInt8) : Op → UInt8
  | .text (u :: _) => u
  | .fig f => f.u
  | .ref _ => eu
  | _ => 0
theorem bys_get {es : List (Str × MV)} {eu : UInt8} (hE : es.lookup ("E" : Str) = some (.bytes [eu])) {p : Op} (hp : p ∈ bys) : p.get es 1 = some [uY eu p] := by
  rcases List.mem_cons.mp hp with rfl | hp
  · rfl
  rcases List.mem_cons.mp hp with rfl | hp
  · rfl
  rcases List.mem_cons.mp hp with rfl | hp
  · show byt? (es.lookup ("E" : Str)) = _; rw [hE]; rfl
  cases List.mem_singleton.mp hp
  rfl
noncomputable def wants : List Op := [.text [65, 48, 65], .ref "R", .text [88, 66, 48]]
noncomputable def gives : List Op := [.text [66, 49, 122], .fig .quote, .fig .zero, .ref "R"]
theorem wants_get {es : List (Str × MV)} (hR : es.lookup ("R" : Str) = some (.bytes [65, 66, 48])) {p : Op} (hp : p ∈ wants) : ∃ w, p.get es 1 = some w ∧ w.length = 3 := by
  rcases List.mem_cons.mp hp with rfl | hp
  · exact ⟨_, rfl, rfl⟩
  rcases List.mem_cons.mp hp with rfl | hp
  · exact ⟨[65, 66, 48], by show byt? (es.lookup ("R" : Str)) = _; rw [hR]; rfl, rfl⟩
  cases List.mem_singleton.mp hp
  exact ⟨_, rfl, rfl⟩
theorem gives_get {es : List (Str × MV)} (hR : es.lookup ("R" : Str) = some (.bytes [65, 66, 48])) {p : Op} (hp : p ∈ gives) : ∃ g, p.get es 3 = some g ∧ g.length = 3 := by
  rcases List.mem_cons.mp hp with rfl | hp
  · exact ⟨_, rfl, rfl⟩
  rcases List.mem_cons.mp hp with rfl | hp
  · exact ⟨_, rfl, rfl⟩
  rcases List.mem_cons.mp hp with rfl | hp
  · exact ⟨_, rfl, rfl⟩
  cases List.mem_singleton.mp hp
  exact ⟨[65, 66, 48], by show byt? (es.lookup ("R" : Str)) = _; rw [hR]; rfl, rfl⟩
theorem call_bytes_lst {P : MP} {n : Nat} {xs : List MV} {b : List UInt8} {st : St} {Q : MV → St → Prop} (hb : bytesOf xs = some b) (q : Q (.bytes b) st) : W2 ((run P (n + 1)).call (.bi .bytes) [.lst xs] st) Q :=
  call_bi (by show (bytesOf xs).map _ = _; rw [hb]; rfl) q
noncomputable abbrev itemsD (o : List UInt8) (eu : UInt8) : List (Str × MV) := [("I", .bytes o), ("B", .bytes [66]), ("E", .bytes [eu]), ("R", .bytes [65, 66, 48])]
noncomputable abbrev numsD (a : Nat) : List (Str × MV) := [("N", .int a), ("M", .int 0), ("K", .int 5)]
theorem pd_items {o : List UInt8} {eu : UInt8} : Pd (itemsD o eu) := by
  refine ⟨by show List.Nodup (["I", "B", "E", "R"] : List Str); decide, fun p hp => ?_⟩
  rcases List.mem_cons.mp hp with rfl | hp
  · rfl
  rcases List.mem_cons.mp hp with rfl | hp
  · rfl
  rcases List.mem_cons.mp hp with rfl | hp
  · rfl
  cases List.mem_singleton.mp hp
  rfl
theorem pd_nums {a : Nat} : Pd (numsD a) := by
  refine ⟨by show List.Nodup (["N", "M", "K"] : List Str); decide, fun p hp => ?_⟩
  rcases List.mem_cons.mp hp with rfl | hp
  · rfl
  rcases List.mem_cons.mp hp with rfl | hp
  · rfl
  cases List.mem_singleton.mp hp
  rfl
theorem num_n {a : Nat} {x : Str} (h : x = "N" ∨ x = "M") : IsNum (numsD a) x := by
  rcases h with rfl | rfl <;> rfl
set_option maxHeartbeats 2000000
noncomputable def isT : Option (MV × St) → Bool
  | some (.bool b, _) => b
  | _ => false
theorem isT_w {o : Option (MV × St)} {Q : MV → St → Prop} (h : isT o = true) (q : ∀ st, Q (.bool true) st) : W2 o Q := by
  induction o using Option.casesOn with
  | none => cases h
  | some p =>
    obtain ⟨v, st⟩ := p
    induction v using MV.casesOn with
    | bool b => cases (show b = true from h); exact ⟨_, st, rfl, q st⟩
    | _ => cases h
noncomputable abbrev lwL (p I N L : Nat) : List (Str × MV) := [("pen", .loc p), ("items", .loc I), ("numbers", .loc N), ("ref", refV "I"), ("counting", .loc L)]
/-- one turn of the law, from the pen on -/
noncomputable def turnB : List Stmt := match (dat 328).body with
  | _ :: _ :: .For _ _ b _ _ :: _ => b
  | _ => []
theorem turn_ok {p T : Nat} {st : St} {lc : Lc} {n : Nat} {X : MF → Lc → St → Prop} (hpl : lc "pen" = some (.loc p)) (hp : PenAt st p T) (hT : T ≤ 1000)
    (q : ∀ lc' st', lc' "pen" = some (.loc p) → PenAt st' p (T + 100) → X .next lc' st') :
    W3 (exs (run lawP (n + 300)) turnB (meOf 328) lc st) X := by
  have hlt := hp.lt
  refine xs_of rfl ?_
  repeat (first | walk_at "m" | walk_at "e" | walk_at "s")
  refine drawN_ok hp (by omega) (many := 17) (by decide) (by decide) fun st1 d hF1 hp1 hd => ?_
  repeat (first | walk_at "m" | walk_at "e" | walk_at "s")
  refine call_range1 (smallR_of (by omega) (by omega) (by omega) (by omega)) ?_
  refine it_rng (smallR_of (by omega) (by omega) (by omega) (by omega)) ?_
  rw [show ((d : Int) - 0).toNat = d by omega]
  refine comp_inv 70 d (rngAt 0 d) (fun i => .int ((0 : Int) + (i : Nat))) (fun i acc _ st' => ∃ l : List UInt8, acc = bytL l ∧ l.length = i ∧ Frame (fun l => l = p) st1 st' ∧ PenAt st' p (T + 1 + i))
    (fun _ => rfl) (fun i acc lc st' hi h => rngAt_next hi) (fun acc lc st' h => rngAt_end) ?_ ?_ d 0 _ _ _ _ (by omega) (by omega)
    ⟨[], rfl, rfl, Frame.rfl, hp1⟩
  · intro i m acc lc' st' hi ⟨l, h1, h2, hF, hp'⟩
    subst h1
    refine ⟨by rw [List.length_map]; omega, ?_⟩
    repeat (first | walk_at "m" | walk_at "e" | walk_at "s")
    refine pickbyt_ok hp' (by omega) (by decide) (by decide) fun st4 j v hF4 hp4 hv => ?_
    exact ⟨l ++ [v], by unfold bytL; rw [List.map_append]; rfl, by rw [List.length_append, h2]; rfl, hF.trans hF4, hp4⟩
  intro acc lc' st2 ⟨o, h1, h2, hF2, hp2⟩
  subst h1
  have hl : o.length ≤ 16 := by omega
  repeat (first | walk_at "m" | walk_at "e" | walk_at "s")
  refine call_bytes_lst (bytesOf_byt _) ?_
  repeat (first | walk_at "m" | walk_at "e" | walk_at "s")
  refine picklst_ok hp2 (by omega) (by decide) (by decide) fun st3 i v hF3 hp3 hv => ?_
  obtain ⟨eu, rfl⟩ : ∃ eu, v = .bytes [eu] := by
    have hv' : (([88, 66, 65] : List UInt8).map fun u => MV.bytes [u])[i]? = some v := hv
    rw [List.getElem?_map] at hv'
    obtain ⟨u, _, rfl⟩ := Option.map_eq_some_iff.mp hv'
    exact ⟨u, rfl⟩
  repeat (first | walk_at "m" | walk_at "e" | walk_at "s")
  have hI0 : (st3 ++ [MO.dict (itemsD o eu)])[st3.length]? = some (.dict (itemsD o eu)) := app_new
  have hp3' : PenAt (st3 ++ [MO.dict (itemsD o eu)]) p (T + 18) := hp3.app.le (by omega)
  have hpl3 := hp3.lt
  generalize hIe : st3.length = I at *
  replace hIe : I ≠ p := by omega
  generalize st3 ++ [MO.dict (itemsD o eu)] = st4 at *
  refine drawN_ok hp3' (by omega) (many := 1000) (by decide) (by decide) fun st5 nn hF5 hp5 hnn => ?_
  have hI5 := hF5.get hI0 hIe
  repeat (first | walk_at "m" | walk_at "e" | walk_at "s")
  refine ref_ok ?_
  repeat (first | walk_at "m" | walk_at "e" | walk_at "s")
  have hN0 : (st5 ++ [MO.dict (numsD nn)] ++ [MO.list []])[st5.length]? = some (.dict (numsD nn)) := app_get app_new
  have hL0 : (st5 ++ [MO.dict (numsD nn)] ++ [MO.list []])[(st5 ++ [MO.dict (numsD nn)]).length]? = some (.list []) := app_new
  have hI6 : (st5 ++ [MO.dict (numsD nn)] ++ [MO.list []])[I]? = some (.dict (itemsD o eu)) := app_get (app_get hI5)
  have hp6 : PenAt (st5 ++ [MO.dict (numsD nn)] ++ [MO.list []]) p (T + 19) := hp5.app.app
  have e1 : (st5 ++ [MO.dict (numsD nn)]).length = st5.length + 1 := by simp
  have hIl := (List.getElem?_eq_some_iff.mp hI5).1
  generalize (st5 ++ [MO.dict (numsD nn)] ++ [MO.list []]) = st6 at *
  generalize (st5 ++ [MO.dict (numsD nn)]).length = L at *
  generalize st5.length = N at *
  refine rows_ok (ks := [.all, .lead]) hp6 (by omega) (by decide) (by decide) fun st7 k kd op hF7 hp7 hdr => ?_
  have hk4 := drawn_le hdr
  refine ⟨_, rfl, ?_⟩
  have hI7 := hF7.get hI6 hIe
  have hN7 := hF7.get hN0 (by omega)
  have hL7 := hF7.get hL0 (by omega)
  refine loop_inv 100 k (fun i => .lst ((List.range k).map fun i => koV (kd i) (op i)) i) (fun i => koV (kd i) (op i)) (fun i lc st' => Has lc (lwL p I N L) ∧
      ∃ t : Nat → TR, (∀ j < i, (t j).kd = kd j ∧ (t j).op = op j ∧ ((t j).x = "N" ∨ (t j).x = "M") ∧ (t j).be ∈ edges ∧ (t j).af ∈ edges) ∧ Frame (fun l => l = p ∨ l = L) st7 st' ∧ PenAt st' p (T + 39 + 3 * i) ∧ st'[L]? = some (.list ((List.range i).map fun j => (t j).v)))
    (fun _ => rfl) (fun i lc st hi _ => lst_next (rng_get hi)) (fun _ _ _ => lst_end (by rw [rng_len]; exact Nat.le_refl _)) ?_ ?_ k 0 _ _ _ (by omega) (by omega)
    ⟨by walk_at "hasc", fun _ => ⟨"N", .all, none, none, none⟩, fun j hj => absurd hj (Nat.not_lt_zero _), Frame.rfl, hp7, hL7⟩
  · intro i m lc st8 hi ⟨h1, t, ht, hF8, hp8, hL8⟩
    repeat (first | walk_at "m" | walk_at "e" | walk_at "s")
    refine meth_append hL8 ?_
    repeat (first | walk_at "m" | walk_at "e" | walk_at "s")
    refine picklst_ok hp8 (by omega) (by decide) (by decide) fun st9 j v hF9 hp9 hv => ?_
    obtain ⟨x, hx, rfl⟩ : ∃ x : Str, (x = "N" ∨ x = "M") ∧ v = .str x := by
      have hv' : (([("N" : Str), ("M" : Str), ("N" : Str)] : List Str).map MV.str)[j]? = some v := hv
      rw [List.getElem?_map] at hv'
      obtain ⟨x, hx, rfl⟩ := Option.map_eq_some_iff.mp hv'
      refine ⟨x, ?_, rfl⟩
      have := List.mem_of_getElem? hx
      rcases List.mem_cons.mp this with rfl | this
      · exact .inl rfl
      rcases List.mem_cons.mp this with rfl | this
      · exact .inr rfl
      cases List.mem_singleton.mp this
      exact .inl rfl
    repeat (first | walk_at "m" | walk_at "e" | walk_at "s")
    refine ref_ok ?_
    repeat (first | walk_at "m" | walk_at "e" | walk_at "s")
    refine edge_ok hp9 (by omega) fun st10 be hF10 hp10 hbe => ?_
    repeat (first | walk_at "m" | walk_at "e" | walk_at "s")
    refine edge_ok hp10 (by omega) fun st11 af hF11 hp11 haf => ?_
    have hL11 := hF11.get (hF10.get (hF9.get hL8 (by omega)) (by omega)) (by omega)
    have hF11' := hF8.trans (Frame.mono (hF9.trans (hF10.trans hF11)) (S' := fun l => l = p ∨ l = L) fun l _ h => .inl h)
    repeat (first | walk_at "m" | walk_at "e" | walk_at "s")
    refine ⟨_, _, rfl, hL11, by rw [rng_len]; omega, ?_⟩
    repeat (first | walk_at "m" | walk_at "e" | walk_at "s")
    refine ⟨by walk_at "has", fun j => if j = i then ⟨x, kd i, op i, be, af⟩ else t j, fun j hj => ?_, hF11'.trans (Frame.put (.inr rfl)), ?_, ?_⟩
    · dsimp only
      split
      · rename_i e; subst e; exact ⟨rfl, rfl, hx, hbe, haf⟩
      · exact ht j (by omega)
    · obtain ⟨ns, t', g, a, b, c⟩ := hp11
      exact ⟨ns, t', g, set_get_ne a (by omega), b, by omega⟩
    · rw [set_get hL11, ← rng_snoc]
      refine congrArg (fun x => some (MO.list x)) ?_
      congr 1
      · apply List.map_congr_left
        intro j hj
        dsimp only
        rw [if_neg (by have := List.mem_range.mp hj; omega)]
      · dsimp only
        rw [if_pos rfl]
  intro lc st8 ⟨h1, t, ht, hF8, hp8, hL8⟩
  have hI8 := hF8.get hI7 (by omega)
  have hN8 := hF8.get hN7 (by omega)
  repeat (first | walk_at "m" | walk_at "e" | walk_at "s")
  have hM0 : (st8 ++ [MO.list []])[st8.length]? = some (.list []) := app_new
  have hI9 : (st8 ++ [MO.list []])[I]? = some (.dict (itemsD o eu)) := app_get hI8
  have hN9 : (st8 ++ [MO.list []])[N]? = some (.dict (numsD nn)) := app_get hN8
  have hL9 := app_get (t := [MO.list []]) hL8
  have hp9 : PenAt (st8 ++ [MO.list []]) p (T + 51) := hp8.app.le (by omega)
  have hLl := (List.getElem?_eq_some_iff.mp hL8).1
  generalize (st8 ++ [MO.list []]) = st9 at *
  generalize st8.length = M at *
  refine rows_ok (ks := [.all, .lead, .first]) hp9 (by omega) (by decide) (by decide) fun st10 k2 kd2 op2 hF10 hp10 hdr2 => ?_
  have hk24 := drawn_le hdr2
  refine ⟨_, rfl, ?_⟩
  have hI10 := hF10.get hI9 hIe
  have hN10 := hF10.get hN9 (by omega)
  have hL10 := hF10.get hL9 (by omega)
  have hM10 := hF10.get hM0 (by omega)
  refine loop_inv 100 k2 (fun i => .lst ((List.range k2).map fun i => koV (kd2 i) (op2 i)) i) (fun i => koV (kd2 i) (op2 i)) (fun i lc st' => Has lc (lwL p I N L) ∧ lc "changing" = some (.loc M) ∧
      ∃ t : Nat → TB, (∀ j < i, (t j).kd = kd2 j ∧ (t j).op = op2 j ∧ (t j).y ∈ bys ∧ (t j).be ∈ edges ∧ (t j).af ∈ edges) ∧ Frame (fun l => l = p ∨ l = M) st10 st' ∧ PenAt st' p (T + 71 + 3 * i) ∧ st'[M]? = some (.list ((List.range i).map fun j => (t j).v)))
    (fun _ => rfl) (fun i lc st hi _ => lst_next (rng_get hi)) (fun _ _ _ => lst_end (by rw [rng_len]; exact Nat.le_refl _)) ?_ ?_ k2 0 _ _ _ (by omega) (by omega)
    ⟨by walk_at "has", by walk_at "lc", fun _ => ⟨.all, none, .ref "E", none, none⟩, fun j hj => absurd hj (Nat.not_lt_zero _), Frame.rfl, hp10, hM10⟩
  · intro i m lc st11 hi ⟨h1, h6, t2, ht2, hF11, hp11, hM11⟩
    repeat (first | walk_at "m" | walk_at "e" | walk_at "s")
    refine ref_ok ?_
    repeat (first | walk_at "m" | walk_at "e" | walk_at "s")
    refine picklst_ok hp11 (by omega) (by decide) (by decide) fun st12 j v hF12 hp12 hv => ?_
    obtain ⟨y, hy, rfl⟩ : ∃ y : Op, y ∈ bys ∧ v = y.v := by
      have hv' : (bys.map Op.v)[j]? = some v := hv
      rw [List.getElem?_map] at hv'
      obtain ⟨x, hx, rfl⟩ := Option.map_eq_some_iff.mp hv'
      exact ⟨x, List.mem_of_getElem? hx, rfl⟩
    have hM12 := hF12.get hM11 (by omega)
    repeat (first | walk_at "m" | walk_at "e" | walk_at "s")
    refine meth_append hM12 ?_
    repeat (first | walk_at "m" | walk_at "e" | walk_at "s")
    refine edge_ok hp12 (by omega) fun st13 be hF13 hp13 hbe => ?_
    repeat (first | walk_at "m" | walk_at "e" | walk_at "s")
    refine edge_ok hp13 (by omega) fun st14 af hF14 hp14 haf => ?_
    have hM14 := hF14.get (hF13.get hM12 (by omega)) (by omega)
    have hF14' := hF11.trans (Frame.mono (hF12.trans (hF13.trans hF14)) (S' := fun l => l = p ∨ l = M) fun l _ h => .inl h)
    repeat (first | walk_at "m" | walk_at "e" | walk_at "s")
    refine ⟨_, _, rfl, hM14, by rw [rng_len]; omega, ?_⟩
    repeat (first | walk_at "m" | walk_at "e" | walk_at "s")
    refine ⟨by walk_at "has", by walk_at "lc", fun j => if j = i then ⟨kd2 i, op2 i, y, be, af⟩ else t2 j, fun j hj => ?_, hF14'.trans (Frame.put (.inr rfl)), ?_, ?_⟩
    · dsimp only
      split
      · rename_i e; subst e; exact ⟨rfl, rfl, hy, hbe, haf⟩
      · exact ht2 j (by omega)
    · obtain ⟨ns, t', g, a, b, c⟩ := hp14
      exact ⟨ns, t', g, set_get_ne a (by omega), b, by omega⟩
    · rw [set_get hM14, ← rng_snoc]
      refine congrArg (fun x => some (MO.list x)) ?_
      congr 1
      · apply List.map_congr_left
        intro j hj
        dsimp only
        rw [if_neg (by have := List.mem_range.mp hj; omega)]
      · dsimp only
        rw [if_pos rfl]
  intro lc st11 ⟨h1, h6, t2, ht2, hF11, hp11, hM11⟩
  have hI11 := hF11.get hI10 (by omega)
  have hN11 := hF11.get hN10 (by omega)
  have hL11 := hF11.get hL10 (by omega)
  have hIl11 := (List.getElem?_eq_some_iff.mp hI11).1
  replace hp11 : PenAt st11 p (T + 83) := hp11.le (by omega)
  clear hF11 hI10 hN10 hL10 hM10 hF10 hp10 hI9 hN9 hL9 hM0 hp9 hI8 hN8 hL8 hp8 hF8 hI7 hN7 hL7 hF7 hp7 hI6 hN0 hL0 hp6 hI5 hF5 hp5 hI0 hp3' hF3 hp3 hF2 hp2 hF1 hp1 hp
  repeat (first | walk_at "m" | walk_at "e" | walk_at "s")
  refine ref_ok ?_
  repeat (first | walk_at "m" | walk_at "e" | walk_at "s")
  refine picklst_ok hp11 (by omega) (by decide) (by decide) fun st12 jw v hF12 hp12 hv => ?_
  obtain ⟨ow, how, rfl⟩ : ∃ y : Op, y ∈ wants ∧ v = y.v := by
    have hv' : (wants.map Op.v)[jw]? = some v := hv
    rw [List.getElem?_map] at hv'
    obtain ⟨x, hx, rfl⟩ := Option.map_eq_some_iff.mp hv'
    exact ⟨x, List.mem_of_getElem? hx, rfl⟩
  repeat (first | walk_at "m" | walk_at "e" | walk_at "s")
  refine ref_ok ?_
  repeat (first | walk_at "m" | walk_at "e" | walk_at "s")
  refine picklst_ok hp12 (by omega) (by decide) (by decide) fun st13 jg v hF13 hp13 hv2 => ?_
  obtain ⟨og, hog, rfl⟩ : ∃ y : Op, y ∈ gives ∧ v = y.v := by
    have hv' : (gives.map Op.v)[jg]? = some v := hv2
    rw [List.getElem?_map] at hv'
    obtain ⟨x, hx, rfl⟩ := Option.map_eq_some_iff.mp hv'
    exact ⟨x, List.mem_of_getElem? hx, rfl⟩
  have hF13' := hF12.trans hF13
  have hI13 := hF13'.get hI11 (by omega)
  have hN13 := hF13'.get hN11 (by omega)
  have hL13 := hF13'.get hL11 (by omega)
  have hM13 := hF13'.get hM11 (by omega)
  have hB : (itemsD o eu).lookup ("B" : Str) = some (.bytes [66]) := rfl
  have hE : (itemsD o eu).lookup ("E" : Str) = some (.bytes [eu]) := rfl
  have hR : (itemsD o eu).lookup ("R" : Str) = some (.bytes [65, 66, 48]) := rfl
  have hX : (itemsD o eu).lookup ("I" : Str) = some (.bytes o) := rfl
  repeat (first | walk_at "m" | walk_at "e" | walk_at "s")
  refine tallydone_ok (r := fun i => ⟨kd i, uO (op i), uE eu (t i).be, uE eu (t i).af⟩) hI13 hN13 hL13 hX hl (by omega) ?_ (fun i hi => num_n (ht i hi).2.2.1) (drawn_un hdr (by decide)) pd_items pd_nums ?_
  · intro i hi
    obtain ⟨a1, a2, a3, a4, a5⟩ := ht i hi
    exact ⟨a1.symm, by rw [a2]; exact drawn_kof hdr (by decide) hB hi, edges_get hE a4, edges_get hE a5⟩
  intro st14 hF14
  have hI14 := hF14.get hI13 fun h => h
  have hN14 := hF14.get hN13 fun h => h
  have hM14 := hF14.get hM13 fun h => h
  have hp14 := hp13.frame hF14 fun h => h
  repeat (first | walk_at "m" | walk_at "e" | walk_at "s")
  refine replacedone_ok (r := fun i => ⟨kd2 i, uO (op2 i), uE eu (t2 i).be, uE eu (t2 i).af⟩) (y := fun i => uY eu (t2 i).y) hI14 hN14 hM14 hX hl (by omega) ?_ (drawn_un hdr2 (by decide)) pd_items pd_nums ?_
  · intro i hi
    obtain ⟨a1, a2, a3, a4, a5⟩ := ht2 i hi
    exact ⟨a1.symm, by rw [a2]; exact drawn_kof hdr2 (by decide) hB hi, bys_get hE a3, edges_get hE a4, edges_get hE a5⟩
  intro st15 hF15
  have hI15 := hF15.get hI14 fun h => h
  have hN15 := hF15.get hN14 fun h => h
  have hp15 := hp14.frame hF15 fun h => h
  repeat (first | walk_at "m" | walk_at "e" | walk_at "s")
  refine edge_ok hp15 (by omega) fun st16 be hF16 hp16 hbe => ?_
  repeat (first | walk_at "m" | walk_at "e" | walk_at "s")
  refine edge_ok hp16 (by omega) fun st17 af hF17 hp17 haf => ?_
  have hF17' := hF16.trans hF17
  have hI17 := hF17'.get hI15 (by omega)
  have hN17 := hF17'.get hN15 (by omega)
  obtain ⟨w, hw, hwl⟩ := wants_get hR how
  obtain ⟨g, hg, hgl⟩ := gives_get hR hog
  repeat (first | walk_at "m" | walk_at "e" | walk_at "s")
  refine convertdone_ok hI17 hN17 hX hl hw (by omega) (by rw [hwl]; exact hg) (by omega) (edges_get hE hbe) (edges_get hE haf) pd_items pd_nums ?_
  intro st18 hF18
  have hp18 := hp17.frame hF18 fun h => h
  repeat (first | walk_at "m" | walk_at "e" | walk_at "s")
  exact q _ _ (by walk_at "lc") (hp18.le (by omega))
set_option maxHeartbeats 2000000
theorem written_true : isT ((run lawP 336).call (.fn 323) [] []) = true := by decide +kernel
theorem law_true (ns : List Int) : W3 (exs (run lawP 340) (dat 328).body (meOf 328) (Lc.nil.set "script" (.lst (ns.map .int))) []) (retX fun v _ => v = .bool true) := by
  refine xs_of rfl ?_
  repeat (first | walk_at "m" | walk_at "e" | walk_at "s")
  refine isT_w written_true fun st0 => ?_
  repeat (first | walk_at "m" | walk_at "e" | walk_at "s")
  refine pen_ok fun st1 p _ _ hp => ?_
  repeat (first | walk_at "m" | walk_at "e" | walk_at "s")
  show W3 ((run lawP 339).loop _ (rngAt 0 2 0) _ _ _ _) _
  refine loop_inv 330 2 (rngAt 0 2) (fun i => .int ((0 : Int) + (i : Nat))) (fun i lc st => lc "pen" = some (.loc p) ∧ PenAt st p (100 * i))
    (fun _ => rfl) (fun i lc st hi _ => rngAt_next hi) (fun _ _ _ => rngAt_end) ?_ ?_ 2 0 _ _ _ (by omega) (by omega)
    ⟨by walk_at "lc", hp⟩
  · intro i m lc st hi ⟨h1, h2⟩
    apply asg_name
    · walk_at "set"
    show W3 (exs (run lawP (m + 30 + 300)) turnB (meOf 328) _ _) _
    refine turn_ok (by walk_at "lc") h2 (by omega) fun lc' st' g1 g2 => ?_
    exact ⟨g1, g2⟩
  · intro lc st ⟨h1, h2⟩
    repeat (first | walk_at "m" | walk_at "e" | walk_at "s")
    rfl
end Mine.Wk
end
section
open PySem PySem.W PySem.Calls PyProof.Rows PySem.Spec
namespace Mine
open Mine.Wk

theorem law_scope : scopeOk (dat 328).scope = true ∧ (dat 328).scope.names.lookup ("__debug__" : Str) = none ∧ (dat 328).scope.names.lookup ("__classdict__" : Str) = none := by decide +kernel
theorem law_cells : ((dat 328).scope.names.all fun p => decide (p.2 ≠ .free) && (decide (p.2 ≠ .cell) || decide (p.1 = ("pen" : Str)))) = true := by decide +kernel
theorem law_cell : (dat 328).scope.names.lookup ("pen" : Str) = some .cell ∧ ∀ n, cellsFrom n (dat 328).scope.names [] = [(("pen" : Str), n)] := ⟨by decide +kernel, fun n => by kernel_rfl⟩
theorem vs_ints {I : Led} {μ : List Addr} : ∀ {vs : List Value} {ns : List Int}, IntsAre vs ns → VS I μ vs (ns.map .int)
  | _, _, .nil => .nil
  | _, _, .cons n t r => .cons (.int n t) (vs_ints r)

section
variable {prog : Program} {w : World} {hb : Heap} {mg mb : Str → Option Value}
theorem law_walk {K : Frag} (okk : Ok (baseB prog w hb mg mb) K) {ns : List Int} {n : Nat} (W : W3 (exs (run lawP n) (dat 328).body (meOf 328) (Lc.nil.set "script" (.lst (ns.map .int))) []) (retX fun v _ => v = .bool true))
    {body : List Stmt} (hbody : (dat 328).body = body) {env : Env} (hsc : env.scope = (dat 328).scope) (hce : env.cells = cellsFrom (env.locals + 1) env.scope.names []) (hgl : env.globals = mainGlobals) (hbu : env.builtins = builtinsNs)
    {A : Around} (hA : A.handled = none ∧ A.depth ≤ 302 ∧ A.units ≤ 7) (hn : n ≤ 340)
    {h₁ : Heap} {m : Str → Option Value} {la : Addr} {vs : List Value} {oc : Obj} {u : Option Value} (F : Fr hb env.locals h₁ m) (hm : m "script" = some (.ref la)) (hl : hb.IsList la vs.toArray) (hI : IntsAre vs ns) (hlen : ns.length ≤ 1000)
    (N : News hb env.locals h₁ [(env.locals + 1, oc), (268, tabObj #[])]) (hoc : oc.data = .cell u)
    {s : Shared} (hs : s.heap = h₁) {Q : Flow → Shared → Prop} {E : Value → Shared → Prop}
    (k : ∀ s', s' = { s with heap := s'.heap, toks := s'.toks } → (∀ b o, hb.get? b = some o → s'.heap.get? b = some o) → GrownAll [(272, 268)] s'.heap → Q (.ret (.bool true)) s') :
    wpAny (model prog w) A (execs body env) Q E s := by
  subst hbody hs
  obtain ⟨f, lc', st', e, q⟩ := W
  obtain ⟨lo, hlo, hlc, hln, hld⟩ := hl
  have n1 := N _ (.head _)
  have n2 := N _ (.tail _ (.head _))
  have hlL : la ≠ env.locals := fun q => absurd (Heap.lt_size hlo) (by rw [q]; exact Nat.not_lt.mpr F.above)
  have hlC : la ≠ env.locals + 1 := fun q => by rw [q] at hlo; rw [n1.2.2] at hlo; cases hlo
  have hlT : la ≠ 268 := fun q => by rw [q] at hlo; rw [n2.2.2] at hlo; cases hlo
  have hLb : hb.get? env.locals = none := by
    cases q : hb.get? env.locals with
    | none => rfl
    | some o => exact absurd (Heap.lt_size q) (Nat.not_lt.mpr F.above)
  obtain ⟨hpen, hcell⟩ := law_cell
  have hcs : env.cells = [(("pen" : Str), env.locals + 1)] := by rw [hce, hsc]; exact hcell _
  have hown : ∀ x, (meOf 328).own x = true → x = "pen" := fun x hx => by
    have h1 : (dat 328).scope.names.lookup x = some .cell := by simpa [meOf] using hx
    have := List.all_eq_true.mp law_cells _ (lookup_mem h1)
    simpa using this
  have hpo : (meOf 328).own "pen" = true := by show ((dat 328).scope.names.lookup ("pen" : Str) == some .cell) = true; rw [hpen]; rfl
  have howns : ownOf env (meOf 328) = [env.locals, env.locals + 1] := by
    unfold ownOf
    rw [hcs]
    simp only [List.filter_cons, hpo, if_true, List.filter_nil, List.map_cons, List.map_nil]
  have G : GoodH (baseB prog w hb mg mb) [] [(la, lo)] [] s.heap := by
    refine ⟨F.keep, fun p hp => ?_, rfl, fun l a mo h1 => by simp at h1, List.nodup_nil, fun a ha => (nomatch ha), fun a ha => (nomatch ha), fun ha => (nomatch ha), fun p hp => ?_, ⟨⟨_, n2.1, trivial, fun pos cv h => by simp [codeAmong] at h⟩⟩⟩
    · cases List.mem_singleton.mp hp; exact F.keep _ _ hlo
    · cases List.mem_singleton.mp hp; exact hlT
  have hlk : ∀ x, (dat 328).scope.names.lookup x = some .cell ∨ (dat 328).scope.names.lookup x = some .free → x = "pen" := fun x hx => by
    rcases hx with hx | hx
    · have := List.all_eq_true.mp law_cells _ (lookup_mem hx)
      simpa using this
    · have := List.all_eq_true.mp law_cells _ (lookup_mem hx)
      simp at this
  have FK : FrOk (baseB prog w hb mg mb) env (meOf 328) (Lc.nil.set "script" (.lst (ns.map .int))) [] [(la, lo)] s.heap := by
    obtain ⟨s1, s2, s3, s4, s5, s6⟩ := scopeOk_spec law_scope.1
    refine ⟨hsc, s1, s5, s6, hgl, hbu, F.above, ⟨m, F.ns, fun x mv hk hx => ?_⟩, fun x hx => ?_, fun x hx => ?_, fun x y c hx hy _ _ => by rw [hown x hx, hown y hy], fun x mv hx => (nomatch hx), fun x c hx hc => ?_, fun a _ ha => (nomatch ha), fun a ha p hp => ?_, ?_, fun a ha => ?_, fun a ha => ?_, fun h => (nomatch h)⟩
    · unfold Lc.set at hx
      split at hx
      · rename_i e; subst e; cases hx
        refine ⟨_, hm, .lst (.head _) hlc hld (vs_ints hI) (by rw [List.length_map]; omega)⟩
      · cases hx
    · rw [hcs, hlk x hx]; rfl
    · rw [hown x hx]
      refine ⟨hpen, env.locals + 1, u, by rw [hcs]; rfl, ⟨_, n1.1, hoc⟩, fun mv h => ?_⟩
      unfold Lc.set at h
      rw [if_neg (by decide)] at h
      cases h
    · rw [hown x hx, hcs] at hc
      cases (show some (env.locals + 1) = some c from hc)
      exact Nat.succ_ne_self _
    · rw [howns] at ha
      cases List.mem_singleton.mp hp
      rcases List.mem_cons.mp ha with rfl | ha
      · exact hlL
      · cases List.mem_singleton.mp ha; exact hlC
    · rw [howns]
      intro ha
      rcases List.mem_cons.mp ha with e | ha
      · exact n2.2.1 e
      · have e := List.mem_singleton.mp ha
        have h1 := n1.1
        dsimp only at h1
        rw [← e] at h1
        rw [show (baseB prog w hb mg mb).tab = 268 from rfl, n2.1] at h1
        cases h1
        cases hoc
    · rw [howns] at ha
      rcases List.mem_cons.mp ha with rfl | ha
      · exact hLb
      · cases List.mem_singleton.mp ha; exact n1.2.2
    · rw [howns] at ha
      rcases List.mem_cons.mp ha with rfl | ha
      · obtain ⟨o, es, ep, ho, _⟩ := F.ns; exact ⟨o, ho⟩
      · cases List.mem_singleton.mp ha; exact ⟨_, n1.1⟩
  have hR : Room A n := ⟨hA.1, by have : recursionLimit = 1000 := rfl; omega, by have : cLine = 9900 := rfl; omega⟩
  refine sim_exs (B := baseB prog w hb mg mb) (sim okk n).ex hR e (At.here G FK) fun v s' μ' I' X' l' hv => ?_
  cases f with
  | ret mv =>
    cases (show mv = .bool true from q)
    cases hv with
    | ret hv =>
      cases hv with
      | bool =>
        obtain ⟨ps, ht, _⟩ := X'.good.tab.at_
        exact k s' X'.same X'.good.base ⟨⟨ps, ht⟩, trivial⟩
  | next => exact nomatch (show MV.none = .bool true from q)
  | brk => exact nomatch (show MV.none = .bool true from q)
  | cont => exact nomatch (show MV.none = .bool true from q)
end
end Mine
end
section
open PySem PySem.W PyProof.Rows
set_option maxHeartbeats 8000000 in
theorem PySem.Challenge.cw_og0084_01_holds : PySem.Challenge.rw_og0084_01.Holds := by
  refine holds_law Mine.said_ok fun said => ?_
  refine holds_open (q := Mine.q0) (loose := [Str.ofString "LedgerError"]) (Xt := Mine.Xt0) (XP := XL Mine.q0 []) (Yf := Hook.obs (kmHook Mine.K0 Mine.as0 Mine.as0_ok [268])) (Ya := Hook.val (kmHook Mine.K0 Mine.as0 Mine.as0_ok [268]))
    (YP := Hook.says (kmHook Mine.K0 Mine.as0 Mine.as0_ok [268])) (N := 4340) Mine.left_ok (Hook.of (kmHook Mine.K0 Mine.as0 Mine.as0_ok [268])) (Hook.keeps (kmHook Mine.K0 Mine.as0 Mine.as0_ok [268]))
    (fun s e => xl_of s (Bool.and_eq_true_iff.mp e).1) XL.keeps (by rfl) (by rfl) (by rfl) (fun s e => recFacts_of (Bool.and_eq_true_iff.mp e).2) (by rfl) (by assumption) (by decide +kernel) ⟨rfl, rfl, rfl, rfl, rfl, by decide +kernel⟩ ?hw ?hc
  case hw => w_witness2
  k_go0
  k_whole
  rename IntsAre _ _ => hI
  rename Frag.In _ _ => hX
  rename Top topProg _ _ _ _ _ => hT
  rename Fr _ _ _ _ => hF
  rename News _ _ _ _ => hN
  rename _ = Data.cell _ => hoc
  refine Mine.law_walk (K := Mine.KK _) (Mine.ok_of hX hT codeHd (hideAll_none _ (by decide))) (Mine.Wk.law_true _) (by kernel_rfl) (by kernel_rfl) (by kernel_rfl) rfl rfl ⟨rfl, Nat.le_refl _, Nat.le_refl _⟩ (by decide) hF rfl lifted hI (by omega) hN hoc rfl ?_
  intro s' hs hk hg
  refine ⟨⟨.inl ⟨_, _, _, rfl, fun cls => ?_, .bool _, ?_, fun _ => ⟨List.nodup_nil, fun a ha => nomatch ha⟩⟩, hk, ?_, ?_⟩, hg⟩
  · kernel_rfl
  · kernel_rfl
  · rw [hs]
  · rw [hs]; assumption
end
