import PyProof.Rows.All
import Wide.All
import OpenK.AllK
import Wide.FinOn
import PySem.Challenge.RW_tg0012_01
set_option Elab.async false
set_option linter.all false

-- M1
/-! The mini-language: values, store, expressions, statements, the pure evaluator, the compile function. -/
namespace Mine
open PySem

inductive V where
  | undef | none | int (i : Int) | bool (b : Bool) | ref (k : Nat) | scr
  deriving DecidableEq, Inhabited

inductive O where
  | lst (xs : List V)
  | tup (xs : List V)
  | rng (a b c : Int)
  | inst (d : Nat)
  | dct (fs : List (Nat × V))
  deriving DecidableEq, Inhabited

noncomputable abbrev St := List O

inductive ME where
  | fail
  | int (i : Int)
  | bool (b : Bool)
  | none
  | var (i : Nat)
  | glob (i : Int)
  | gtup (t : Nat) (i : ME)
  | bin (op : Operator) (a b : ME)
  | un (op : UnaryOp) (a : ME)
  | cmp (op : CmpOp) (a b : ME)
  | ite (c a b : ME)
  | notB (a : ME)
  | andB (a b : ME)
  | orB (a b : ME)
  | truthy (a : ME)
  | andV (a b : ME)
  | orV (a b : ME)
  | lst (xs : List ME)
  | tup (xs : List ME)
  | comp (slot : Nat) (iter : ME) (cond : ME) (elt : ME)
  | len (a : ME)
  | range1 (a : ME)
  | range3 (a b c : ME)
  | listOf (a : ME)
  | min (a : ME)
  | intOf (a : ME)
  | call (f : Nat) (args : List ME)
  | new (args : List ME)
  | append (a x : ME)
  | extend (a x : ME)
  | attr (a : ME) (nm : Nat)
  | sub (a i : ME)
  | slice (a lo hi : ME)
  deriving Inhabited

inductive MS where
  | fail
  | set (slot : Nat) (e : ME)
  | setTup (slots : List Nat) (e : ME)
  | setTupR (slots : List Nat) (e : ME)
  | setItem (a i v : ME)
  | setAttr (a : ME) (nm : Nat) (v : ME)
  | augVar (slot : Nat) (op : Operator) (e : ME)
  | augItem (a i : ME) (op : Operator) (e : ME)
  | expr (e : ME)
  | ret (e : ME)
  | ite (c : ME) (t e : List MS)
  | for_ (slot : Nat) (iter : ME) (body : List MS)
  | whl (c : ME) (body : List MS)
  deriving Inhabited

inductive Fl where
  | next | ret (v : V)
  deriving DecidableEq, Inhabited

/-! ## operations -/
noncomputable def lim : Nat := 1000000

noncomputable def repeatL (xs : List V) : Nat → List V
  | 0 => []
  | n + 1 => xs ++ repeatL xs n

noncomputable def onInts {α : Type} (g : Int → Int → Option α) (a b : V) : Option α :=
  match a, b with
  | .int x, .int y => g x y
  | _, _ => none

noncomputable def addV (a b : V) (st : St) : Option (V × St) :=
  match a with
  | .int x => onInts (fun a b => some (.int (a + b), st)) (.int x) b
  | .ref i => match b with
    | .ref j => match st[i]?, st[j]? with
      | some (.lst xs), some (.lst ys) => if xs.length + ys.length < lim then some (.ref st.length, st ++ [.lst (xs ++ ys)]) else none
      | _, _ => none
    | _ => none
  | _ => none
noncomputable def multV (a b : V) (st : St) : Option (V × St) :=
  match a with
  | .int x => onInts (fun a b => if a.natAbs < 2 ^ 60 ∧ b.natAbs < 2 ^ 60 then some (.int (a * b), st) else none) (.int x) b
  | .ref i => match b with
    | .int k => match st[i]? with
      | some (.lst [x]) => if 0 ≤ k ∧ k < 100000 then some (.ref st.length, st ++ [.lst (List.replicate k.toNat x)]) else none
      | _ => none
    | _ => none
  | _ => none
noncomputable def binV (op : Operator) (a b : V) (st : St) : Option (V × St) :=
  match op with
  | .Add => addV a b st
  | .Sub => onInts (fun a b => some (.int (a - b), st)) a b
  | .Mult => multV a b st
  | .FloorDiv => onInts (fun a b => if b ≠ 0 ∧ b.natAbs < 1000000000 then some (.int (a.fdiv b), st) else none) a b
  | .Mod => onInts (fun a b => if b ≠ 0 then some (.int (a.fmod b), st) else none) a b
  | .Pow => onInts (fun a n => if 0 ≤ n ∧ n ≤ 1000 ∧ a.natAbs < 2 ^ 64 then some (.int (a ^ n.toNat), st) else none) a b
  | .LShift => onInts (fun a n => if 0 ≤ n ∧ n ≤ 1000 ∧ a.natAbs < 2 ^ 64 then some (.int (a * 2 ^ n.toNat), st) else none) a b
  | .RShift => onInts (fun a n => if 0 ≤ n then some (.int (a.fdiv (2 ^ n.toNat)), st) else none) a b
  | .BitAnd => onInts (fun a b => some (.int (Builtin.bitAnd a b), st)) a b
  | .BitOr => onInts (fun a b => some (.int (Builtin.bitOr a b), st)) a b
  | _ => none

noncomputable def unV (op : UnaryOp) (a : V) : Option V :=
  match op, a with
  | .USub, .int a => some (.int (-a))
  | .Invert, .int a => some (.int (Builtin.bitNot a))
  | _, _ => none

noncomputable def allInts : List V → Bool
  | [] => true
  | .int _ :: r => allInts r
  | _ :: _ => false

noncomputable def inV (neg : Bool) (a b : V) (st : St) : Option Bool :=
  match a with
  | .int x => match b with
    | .ref k => match st[k]? with
      | some (.lst xs) => if allInts xs then some (cond neg (!xs.contains (.int x)) (xs.contains (.int x))) else none
      | _ => none
    | _ => none
  | _ => none
noncomputable def eqV (a b : V) (st : St) : Option Bool :=
  match a with
  | .int x => onInts (fun a b => some (a == b)) (.int x) b
  | .ref i => match b with
    | .ref j => match st[i]?, st[j]? with
      | some (.lst xs), some (.lst []) => if allInts xs then some xs.isEmpty else none
      | _, _ => none
    | _ => none
  | _ => none
noncomputable def neV (a b : V) : Option Bool :=
  match a with
  | .int x => onInts (fun a b => some (a != b)) (.int x) b
  | .bool x => match b with
    | .bool y => some (x != y)
    | _ => none
  | _ => none
noncomputable def cmpV (op : CmpOp) (a b : V) (st : St) : Option Bool :=
  match op with
  | .Eq => eqV a b st
  | .NotEq => neV a b
  | .Lt => onInts (fun a b => some (decide (a < b))) a b
  | .LtE => onInts (fun a b => some (decide (a ≤ b))) a b
  | .Gt => onInts (fun a b => some (decide (a > b))) a b
  | .GtE => onInts (fun a b => some (decide (a ≥ b))) a b
  | .In => inV false a b st
  | .NotIn => inV true a b st
  | _ => none

noncomputable def truthyV (a : V) : Option Bool :=
  match a with
  | .bool b => some b
  | .int i => some (i != 0)
  | _ => none

noncomputable def getV (fr : List V) (i : Nat) : Option V :=
  match fr[i]? with
  | some .undef => none
  | some v => some v
  | none => none

noncomputable def rngLen (a b c : Int) : Nat := (Builtin.Range.rangeSize a b c).toNat

/-- the i-th item of an iterable that was o at first and lies at k: none where it is none, some none at its end -/
noncomputable def nextItem (st : St) (k : Nat) (o : O) (i : Nat) : Option (Option V) :=
  match o with
  | .lst _ => match st[k]? with
    | some (.lst xs) => some xs[i]?
    | _ => none
  | .tup _ => match st[k]? with
    | some (.tup xs) => some xs[i]?
    | _ => none
  | .rng a b c => if i < rngLen a b c then some (some (.int (a + c * i))) else some none
  | _ => none
noncomputable def srcOf (st : St) (v : V) : Option (Nat × O) :=
  match v with
  | .ref k => st[k]?.map fun o => (k, o)
  | _ => none

noncomputable def pushV (st : St) (k : Nat) (x : V) : Option St :=
  match st[k]? with
  | some (.lst xs) => if xs.length < lim then some (st.set k (.lst (xs ++ [x]))) else none
  | _ => none

noncomputable def subV (st : St) (a i : V) : Option V :=
  match a, i with
  | .ref k, .int i => match st[k]? with
    | some (.lst xs) => if 0 ≤ i then xs[i.toNat]? else none
    | _ => none
  | _, _ => none

noncomputable def putItem (st : St) (a i v : V) : Option St :=
  match a, i with
  | .ref k, .int i => match st[k]? with
    | some (.lst xs) => if 0 ≤ i ∧ i.toNat < xs.length then some (st.set k (.lst (xs.set i.toNat v))) else none
    | _ => none
  | _, _ => none

noncomputable def putF (fs : List (Nat × V)) (nm : Nat) (v : V) : List (Nat × V) :=
  match fs with
  | [] => [(nm, v)]
  | p :: r => if p.1 = nm then (p.1, v) :: r else p :: putF r nm v

noncomputable def attrV (st : St) (a : V) (nm : Nat) : Option V :=
  match a with
  | .ref k => match st[k]? with
    | some (.inst d) => match st[d]? with
      | some (.dct fs) => fs.lookup nm
      | _ => none
    | _ => none
  | _ => none

noncomputable def putAttr (st : St) (a : V) (nm : Nat) (v : V) : Option St :=
  match a with
  | .ref k => match st[k]? with
    | some (.inst d) => match st[d]? with
      | some (.dct fs) => if fs.length < 100 then some (st.set d (.dct (putF fs nm v))) else none
      | _ => none
    | _ => none
  | _ => none

/-- xs[lo:hi] with bounds nought or more, or absent -/
noncomputable def sliceL (xs : List V) (lo hi : V) : Option (List V) :=
  match lo, hi with
  | .none, .int h => if 0 ≤ h then some (xs.take h.toNat) else none
  | .int l, .none => if 0 ≤ l then some (xs.drop l.toNat) else none
  | .int l, .int h => if 0 ≤ l ∧ 0 ≤ h then some ((xs.take h.toNat).drop l.toNat) else none
  | _, _ => none

noncomputable def lenV (st : St) (a : V) : Option Nat :=
  match a with
  | .ref k => match st[k]? with
    | some (.lst xs) => some xs.length
    | _ => none
  | _ => none

noncomputable def minL : List V → Option Int
  | [] => none
  | [.int a] => some a
  | .int a :: r => match minL r with
    | some b => some (if b < a then b else a)
    | none => none
  | _ => none

noncomputable def intsUp (a c : Int) : Nat → List V
  | 0 => []
  | n + 1 => .int a :: intsUp (a + c) c n

structure Cfg where
  N : Nat
  C : Nat → List V → St → Option (V × St)
  scr : List Int
  gt : List (List Int)

noncomputable def smallI (a : Int) : Bool := decide (a.natAbs < 100000)

noncomputable def compI (step : V → St → Option (Option V × St)) (j : Nat) (o : O) (k : Nat) : Nat → Nat → St → Option St
  | 0, _, _ => none
  | n + 1, i, st => match nextItem st j o i with
    | none => none
    | some none => some st
    | some (some v) => match step v st with
      | none => none
      | some (none, st') => compI step j o k n (i + 1) st'
      | some (some x, st') => match pushV st' k x with
        | none => none
        | some st'' => compI step j o k n (i + 1) st''

mutual
noncomputable def ev (c : Cfg) : ME → List V → St → Option (V × St)
  | .fail, _, _ => none
  | .int i, _, st => some (.int i, st)
  | .bool b, _, st => some (.bool b, st)
  | .none, _, st => some (.none, st)
  | .var i, fr, st => (getV fr i).map fun v => (v, st)
  | .glob i, _, st => some (.int i, st)
  | .gtup t i, fr, st => (ev c i fr st).bind fun p => match p.1 with
    | .int j => if 0 ≤ j ∧ j < 100 then ((c.gt[t]?).bind fun xs => xs[j.toNat]?).map fun x => (.int x, p.2) else none
    | _ => none
  | .bin op a b, fr, st => (ev c a fr st).bind fun p => (ev c b fr p.2).bind fun q => binV op p.1 q.1 q.2
  | .un op a, fr, st => (ev c a fr st).bind fun p => (unV op p.1).map fun v => (v, p.2)
  | .cmp op a b, fr, st => (ev c a fr st).bind fun p => (ev c b fr p.2).bind fun q => (cmpV op p.1 q.1 q.2).map fun r => (.bool r, q.2)
  | .ite t a b, fr, st => (ev c t fr st).bind fun p => match p.1 with
    | .bool true => ev c a fr p.2
    | .bool false => ev c b fr p.2
    | _ => none
  | .notB a, fr, st => (ev c a fr st).bind fun p => match p.1 with
    | .bool r => some (.bool (!r), p.2)
    | _ => none
  | .andB a b, fr, st => (ev c a fr st).bind fun p => match p.1 with
    | .bool true => ev c b fr p.2
    | .bool false => some (.bool false, p.2)
    | _ => none
  | .orB a b, fr, st => (ev c a fr st).bind fun p => match p.1 with
    | .bool true => some (.bool true, p.2)
    | .bool false => ev c b fr p.2
    | _ => none
  | .truthy a, fr, st => (ev c a fr st).bind fun p => (truthyV p.1).map fun r => (.bool r, p.2)
  | .andV a b, fr, st => (ev c a fr st).bind fun p => (truthyV p.1).bind fun r => if r then ev c b fr p.2 else some p
  | .orV a b, fr, st => (ev c a fr st).bind fun p => (truthyV p.1).bind fun r => if r then some p else ev c b fr p.2
  | .lst xs, fr, st => (evL c xs fr st).map fun p => (.ref p.2.length, p.2 ++ [.lst p.1])
  | .tup xs, fr, st => (evL c xs fr st).map fun p => (.ref p.2.length, p.2 ++ [.tup p.1])
  | .comp slot iter cond elt, fr, st => (ev c iter fr st).bind fun p => (srcOf p.2 p.1).bind fun s =>
      (compI (fun v st => (ev c cond (fr.set slot v) st).bind fun q => match q.1 with
        | .bool true => (ev c elt (fr.set slot v) q.2).map fun r => (some r.1, r.2)
        | .bool false => some (none, q.2)
        | _ => none) s.1 s.2 p.2.length c.N 0 (p.2 ++ [.lst []])).map fun st' => (.ref p.2.length, st')
  | .len a, fr, st => (ev c a fr st).bind fun p => (lenV p.2 p.1).map fun (n : Nat) => (V.int (n : Int), p.2)
  | .range1 a, fr, st => (ev c a fr st).bind fun p => match p.1 with
    | .int b => if smallI b then some (.ref p.2.length, p.2 ++ [.rng 0 b 1]) else none
    | _ => none
  | .range3 a b d, fr, st => (ev c a fr st).bind fun p => (ev c b fr p.2).bind fun q => (ev c d fr q.2).bind fun r => match p.1, q.1, r.1 with
    | .int x, .int y, .int z => if smallI x ∧ smallI y ∧ smallI z ∧ z ≠ 0 then some (.ref r.2.length, r.2 ++ [.rng x y z]) else none
    | _, _, _ => none
  | .listOf a, fr, st => (ev c a fr st).bind fun p => match p.1 with
    | .ref k => match p.2[k]? with
      | some (.rng x y z) => some (.ref p.2.length, p.2 ++ [.lst (intsUp x z (rngLen x y z))])
      | _ => none
    | _ => none
  | .min a, fr, st => (ev c a fr st).bind fun p => match p.1 with
    | .ref k => match p.2[k]? with
      | some (.lst xs) => (minL xs).map fun i => (.int i, p.2)
      | _ => none
    | _ => none
  | .intOf a, fr, st => (ev c a fr st).bind fun p => match p.1 with
    | .bool b => some (.int (if b then 1 else 0), p.2)
    | _ => none
  | .call f args, fr, st => (evL c args fr st).bind fun p => c.C f p.1 p.2
  | .new args, fr, st => (evL c args fr st).bind fun p =>
      (c.C 0 (.ref (p.2.length + 1) :: p.1) (p.2 ++ [.dct [], .inst p.2.length])).bind fun q => match q.1 with
        | .none => some (.ref (p.2.length + 1), q.2)
        | _ => none
  | .append a x, fr, st => (ev c a fr st).bind fun p => match p.1 with
    | .ref k => if (lenV p.2 (.ref k)).isSome then (ev c x fr p.2).bind fun q => (pushV q.2 k q.1).map fun st' => (.none, st') else none
    | _ => none
  | .extend a x, fr, st => (ev c a fr st).bind fun p => match p.1 with
    | .ref k => if (lenV p.2 (.ref k)).isSome then (ev c x fr p.2).bind fun q => match q.1 with
      | .ref j => match q.2[k]?, q.2[j]? with
        | some (.lst xs), some (.lst ys) => if k ≠ j ∧ xs.length + ys.length < lim then some (.none, q.2.set k (.lst (xs ++ ys))) else none
        | _, _ => none
      | _ => none else none
    | _ => none
  | .attr a nm, fr, st => (ev c a fr st).bind fun p => (attrV p.2 p.1 nm).map fun v => (v, p.2)
  | .sub a i, fr, st => (ev c a fr st).bind fun p => (ev c i fr p.2).bind fun q => (subV q.2 p.1 q.1).map fun v => (v, q.2)
  | .slice a lo hi, fr, st => (ev c a fr st).bind fun p => (ev c lo fr p.2).bind fun q => (ev c hi fr q.2).bind fun r =>
      match p.1 with
      | .scr => (sliceL (c.scr.map .int) q.1 r.1).map fun ys => (.ref r.2.length, r.2 ++ [.lst ys])
      | .ref k => match r.2[k]? with
        | some (.lst xs) => (sliceL xs q.1 r.1).map fun ys => (.ref r.2.length, r.2 ++ [.lst ys])
        | _ => none
      | _ => none
noncomputable def evL (c : Cfg) : List ME → List V → St → Option (List V × St)
  | [], _, st => some ([], st)
  | e :: r, fr, st => (ev c e fr st).bind fun p => (evL c r fr p.2).map fun q => (p.1 :: q.1, q.2)
end

noncomputable def setSlots : List Nat → List V → List V → List V
  | s :: ss, v :: vs, fr => setSlots ss vs (fr.set s v)
  | _, _, fr => fr

noncomputable def forI (body : List V → St → Option (Fl × List V × St)) (slot : Nat) (j : Nat) (o : O) : Nat → Nat → List V → St → Option (Fl × List V × St)
  | 0, _, _, _ => none
  | n + 1, i, fr, st => match nextItem st j o i with
    | none => none
    | some none => some (.next, fr, st)
    | some (some v) => match body (fr.set slot v) st with
      | none => none
      | some (.next, fr', st') => forI body slot j o n (i + 1) fr' st'
      | some (.ret v, fr', st') => some (.ret v, fr', st')

noncomputable def whlI (cond : List V → St → Option (V × St)) (body : List V → St → Option (Fl × List V × St)) : Nat → List V → St → Option (Fl × List V × St)
  | 0, _, _ => none
  | n + 1, fr, st => match cond fr st with
    | some (.bool true, st') => match body fr st' with
      | none => none
      | some (.next, fr', st'') => whlI cond body n fr' st''
      | some (.ret v, fr', st'') => some (.ret v, fr', st'')
    | some (.bool false, st') => some (.next, fr, st')
    | _ => none

mutual
noncomputable def ex (c : Cfg) : MS → List V → St → Option (Fl × List V × St)
  | .fail, _, _ => none
  | .set i e, fr, st => (ev c e fr st).map fun p => (.next, fr.set i p.1, p.2)
  | .setTup is e, fr, st => (ev c e fr st).bind fun p => match p.1 with
    | .ref k => match p.2[k]? with
      | some (.tup xs) => if xs.length = is.length then some (.next, setSlots is xs fr, p.2) else none
      | _ => none
    | _ => none
  | .setTupR is e, fr, st => (ev c e fr st).bind fun p => match p.1 with
    | .ref k => match p.2[k]? with
      | some (.tup xs) => if xs.length = is.length then some (.next, setSlots is.reverse xs.reverse fr, p.2) else none
      | _ => none
    | _ => none
  | .setItem a i v, fr, st => (ev c v fr st).bind fun p => (ev c a fr p.2).bind fun q => (ev c i fr q.2).bind fun r =>
      (putItem r.2 q.1 r.1 p.1).map fun st' => (.next, fr, st')
  | .setAttr a nm v, fr, st => (ev c v fr st).bind fun p => (ev c a fr p.2).bind fun q => (putAttr q.2 q.1 nm p.1).map fun st' => (.next, fr, st')
  | .augVar i op e, fr, st => (getV fr i).bind fun old => (ev c e fr st).bind fun p => match old, p.1 with
    | .int a, .int b => match op with
      | .Add => some (.next, fr.set i (.int (a + b)), p.2)
      | .BitOr => some (.next, fr.set i (.int (Builtin.bitOr a b)), p.2)
      | _ => none
    | _, _ => none
  | .augItem a i op e, fr, st => (ev c a fr st).bind fun p => (ev c i fr p.2).bind fun q => (subV q.2 p.1 q.1).bind fun old =>
      (ev c e fr q.2).bind fun r => match old, r.1 with
      | .int x, .int y => match op with
        | .Sub => (putItem r.2 p.1 q.1 (.int (x - y))).map fun st' => (.next, fr, st')
        | .BitOr => (putItem r.2 p.1 q.1 (.int (Builtin.bitOr x y))).map fun st' => (.next, fr, st')
        | _ => none
      | _, _ => none
  | .expr e, fr, st => (ev c e fr st).map fun p => (.next, fr, p.2)
  | .ret e, fr, st => (ev c e fr st).map fun p => (.ret p.1, fr, p.2)
  | .ite t a b, fr, st => (ev c t fr st).bind fun p => match p.1 with
    | .bool true => exs c a fr p.2
    | .bool false => exs c b fr p.2
    | _ => none
  | .for_ slot it body, fr, st => (ev c it fr st).bind fun p => (srcOf p.2 p.1).bind fun s => forI (fun fr st => exs c body fr st) slot s.1 s.2 c.N 0 fr p.2
  | .whl t body, fr, st => whlI (fun fr st => ev c t fr st) (fun fr st => exs c body fr st) c.N fr st
noncomputable def exs (c : Cfg) : List MS → List V → St → Option (Fl × List V × St)
  | [], fr, st => some (.next, fr, st)
  | s :: r, fr, st => (ex c s fr st).bind fun p => match p.1 with
    | .next => exs c r p.2.1 p.2.2
    | .ret _ => some p
end

structure Fn where
  np : Nat
  ns : Nat
  body : List MS

noncomputable def run (fns : List Fn) (N : Nat) (scr : List Int) (gt : List (List Int)) : Nat → Nat → List V → St → Option (V × St)
  | 0, _, _, _ => none
  | d + 1, f, args, st => match fns[f]? with
    | none => none
    | some fn => if args.length = fn.np then
        match exs ⟨N, run fns N scr gt d, scr, gt⟩ fn.body (args ++ List.replicate fn.ns .undef) st with
        | some (.ret v, _, st') => some (v, st')
        | some (.next, _, st') => some (.none, st')
        | none => none
      else none

/-! ## compiling -/
structure Ctx where
  names : List (Str × NameKind)
  vars : List (Str × Nat)
  next : Nat

structure Glb where
  gints : List (Str × Int)
  tups : List Str
  fns : List Str
  cls : Str
  attrs : List Str

noncomputable def Ctx.glob (c : Ctx) (x : Str) : Bool := c.vars.lookup x == none && c.names.lookup x == some .globalImplicit && !(x == ("__debug__" : Str))
noncomputable def noStar : PySem.Expr → Bool
  | .Starred .. => false
  | _ => true
noncomputable def okBase : PySem.Expr → Bool
  | .Name .. | .Attribute .. | .Subscript .. => true
  | _ => false

/-- the names of a comprehension's scope, as they stand in its block -/
noncomputable def Ctx.own (c : Ctx) (p : Str × NameKind) : Str × NameKind := if p.2 == .free && c.names.lookup p.1 == some .cell then (p.1, .cell) else p
noncomputable def Ctx.inComp (c : Ctx) (scope : Scope) (x : Str) : Ctx :=
  ⟨scope.names.map c.own, (x, c.next) :: c.vars.filter (fun p => p.1 != x && scope.names.lookup p.1 == some .free), c.next + 1⟩
noncomputable def compOk (c : Ctx) (scope : Scope) (x : Str) : Bool :=
  scope.kind == .function && scope.names.all (fun p => p.2 != .cell) && scope.names.all (fun p => p.2 != .local || scope.names.lookup p.1 == some .local) && scope.names.lookup x == some .local &&
  scope.names.all (fun p => p.2 != .free || ((c.vars.lookup p.1).isSome && (c.names.lookup p.1 == some .cell || c.names.lookup p.1 == some .free))) &&
  !(x == ("__debug__" : Str)) && !(x == ("__classdict__" : Str))
noncomputable def idx (l : List Str) (x : Str) : Option Nat := l.findIdx? (· == x)

noncomputable def cmp1 : List CmpOp → List PySem.Expr → Option (CmpOp × PySem.Expr)
  | [op], [r] => some (op, r)
  | _, _ => none
noncomputable def two : List PySem.Expr → Option (PySem.Expr × PySem.Expr)
  | [a, b] => some (a, b)
  | _ => none
noncomputable def comp1 : List Comprehension → Option (Str × PySem.Expr × List PySem.Expr)
  | [⟨.Name x _, iter, ifs, .ofNat 0⟩] => some (x, iter, ifs)
  | _ => none
noncomputable def sliceOf : PySem.Expr → Option (Option PySem.Expr × Option PySem.Expr)
  | .Slice lo hi none _ => some (lo, hi)
  | _ => none
noncomputable def nmOf : PySem.Expr → Option Str
  | .Name t _ => some t
  | _ => none

section
variable (g : Glb)
mutual
noncomputable def cE (c : Ctx) : Nat → PySem.Expr → ME
  | 0, _ => .fail
  | n + 1, e => match e with
    | .Constant (.int i) _ _ => .int i
    | .Constant (.bool b) _ _ => .bool b
    | .Constant .none _ _ => .none
    | .Name x _ => match c.vars.lookup x with
      | some i => .var i
      | none => if c.glob x then (match g.gints.lookup x with | some i => .glob i | none => .fail) else .fail
    | .BinOp l op r _ => .bin op (cE c n l) (cE c n r)
    | .UnaryOp op x _ => .un op (cE c n x)
    | .Compare l ops cs _ => match cmp1 ops cs with
      | some (op, r) => if behindInMarks op r then .fail else .cmp op (cE c n l) (cE c n r)
      | none => .fail
    | .IfExp t a b _ => .ite (cB c n t) (cE c n a) (cE c n b)
    | .BoolOp op es _ => match two es with
      | some (a, b) => (match op with | .And => .andV (cE c n a) (cE c n b) | .Or => .orV (cE c n a) (cE c n b))
      | none => .fail
    | .List es _ => if es.length < 100 && es.all noStar then .lst (es.map (cE c n)) else .fail
    | .Tuple es _ _ => if es.length < 100 && es.all noStar then .tup (es.map (cE c n)) else .fail
    | .ListComp elt gs scope _ => match comp1 gs with
      | some (x, iter, ifs) => if compOk c scope x then .comp c.next (cE c n iter) (cBs (c.inComp scope x) n ifs) (cE (c.inComp scope x) n elt) else .fail
      | none => .fail
    | .Call (.Name f _) args kws _ => if !kws.isEmpty then .fail else if c.glob f && args.all noStar && !args.isEmpty then
        (if f == ("len" : Str) then (match args with | [a] => .len (cE c n a) | _ => .fail)
        else if f == ("range" : Str) then (match args with | [a] => .range1 (cE c n a) | [a, b, d] => .range3 (cE c n a) (cE c n b) (cE c n d) | _ => .fail)
        else if f == ("list" : Str) then (match args with | [a] => .listOf (cE c n a) | _ => .fail)
        else if f == ("min" : Str) then (match args with | [a] => .min (cE c n a) | _ => .fail)
        else if f == ("int" : Str) then (match args with | [a] => .intOf (cE c n a) | _ => .fail)
        else if f == g.cls then .new (args.map (cE c n))
        else match idx g.fns f with
          | some (k + 1) => .call (k + 1) (args.map (cE c n))
          | _ => .fail)
      else .fail
    | .Call (.Attribute o m apos) args kws pos => if !kws.isEmpty then .fail else match args with
      | [a] => if (apos.endLine == pos.line) && okBase o && noStar a then
        (if m == ("append" : Str) then .append (cE c n o) (cE c n a) else if m == ("extend" : Str) then .extend (cE c n o) (cE c n a) else .fail) else .fail
      | _ => .fail
    | .Attribute o m _ => if okBase o then (match idx g.attrs m with
      | some k => .attr (cE c n o) k
      | none => .fail) else .fail
    | .Subscript a i _ => match sliceOf i with
      | some (lo, hi) => .slice (cE c n a) (cO c n lo) (cO c n hi)
      | none => match nmOf a with
        | some t => if c.glob t && (idx g.tups t).isSome then .gtup ((idx g.tups t).getD 0) (cE c n i) else .sub (cE c n a) (cE c n i)
        | none => .sub (cE c n a) (cE c n i)
    | _ => .fail
noncomputable def cB (c : Ctx) : Nat → PySem.Expr → ME
  | 0, _ => .fail
  | n + 1, e => match e with
    | .UnaryOp .Not x _ => .notB (cB c n x)
    | .BoolOp .And es _ => cAnd c n es
    | .BoolOp .Or es _ => cOr c n es
    | .IfExp .. => .fail
    | .Compare l ops cs _ => match cmp1 ops cs with
      | some (op, r) => if behindInMarks op r then .fail else .cmp op (cE c n l) (cE c n r)
      | none => .fail
    | e => .truthy (cE c n e)
noncomputable def cBs (c : Ctx) : Nat → List PySem.Expr → ME
  | 0, _ => .fail
  | n + 1, es => match es with
    | [] => .bool true
    | [e] => cB c n e
    | _ => .fail
noncomputable def cAnd (c : Ctx) : Nat → List PySem.Expr → ME
  | 0, _ => .fail
  | n + 1, es => match es with
    | [] => .bool true
    | [e] => cB c n e
    | e :: r => .andB (cB c n e) (cAnd c n r)
noncomputable def cOr (c : Ctx) : Nat → List PySem.Expr → ME
  | 0, _ => .fail
  | n + 1, es => match es with
    | [] => .bool false
    | [e] => cB c n e
    | e :: r => .orB (cB c n e) (cOr c n r)
noncomputable def cO (c : Ctx) : Nat → Option PySem.Expr → ME
  | 0, _ => .fail
  | n + 1, o => match o with
    | none => .none
    | some e => cE c n e
end

noncomputable def slotsFor (c : Ctx) : List PySem.Expr → Option (List Nat)
  | [] => some []
  | .Name x _ :: r => match c.vars.lookup x, slotsFor c r with
    | some i, some is => some (i :: is)
    | _, _ => none
  | _ :: _ => none
noncomputable def isComp : PySem.Expr → Bool
  | .ListComp .. | .SetComp .. | .DictComp .. => true
  | _ => false
noncomputable def dummyEnv (names : List (Str × NameKind)) : Env := { scope := { kind := .function, names := names, isGenerator := false, isCoroutine := false }, locals := 0, globals := 0, cells := [] }
/-- are the stores of a tuple's assignment swapped: the names, none where they are not; nothing where the model has no word -/
noncomputable def swapMode (names : List (Str × NameKind)) (t e : PySem.Expr) : Option (Option (List Str)) :=
  match swappedStores [t] e (dummyEnv names) with
  | .pure m => some m
  | _ => none
noncomputable def slotsN (c : Ctx) : List Str → Option (List Nat)
  | [] => some []
  | x :: r => match c.vars.lookup x, slotsN c r with
    | some i, some is => some (i :: is)
    | _, _ => none

mutual
noncomputable def cS (c : Ctx) : Nat → Stmt → MS
  | 0, _ => .fail
  | n + 1, s => match s with
    | .Assign [.Name x _] e _ => match c.vars.lookup x with
      | some i => .set i (cE g c n e)
      | none => .fail
    | .Assign [.Tuple ts kk tp] e _ => match slotsFor c ts, swapMode c.names (.Tuple ts kk tp) e with
      | some is, some none => .setTup is (cE g c n e)
      | some is, some (some ns) => if slotsN c ns == some is then .setTupR is (cE g c n e) else .fail
      | _, _ => .fail
    | .Assign [.Attribute o m _] e _ => match idx g.attrs m with
      | some k => .setAttr (cE g c n o) k (cE g c n e)
      | none => .fail
    | .Assign [.Subscript a i _] e _ => .setItem (cE g c n a) (cE g c n i) (cE g c n e)
    | .AugAssign (.Name x _) op e _ => match c.vars.lookup x with
      | some i => .augVar i op (cE g c n e)
      | none => .fail
    | .AugAssign (.Subscript a i _) op e _ => .augItem (cE g c n a) (cE g c n i) op (cE g c n e)
    | .Expr e _ => if isComp e then .fail else .expr (cE g c n e)
    | .Return (some e) _ => .ret (cE g c n e)
    | .If t a b _ => .ite (cB g c n t) (cSs c n a) (cSs c n b)
    | .For (.Name x _) it body [] _ => match c.vars.lookup x with
      | some i => .for_ i (cE g c n it) (cSs c n body)
      | none => .fail
    | .While t body [] _ => .whl (cB g c n t) (cSs c n body)
    | _ => .fail
noncomputable def cSs (c : Ctx) : Nat → List Stmt → List MS
  | 0, _ => [.fail]
  | n + 1, ss => match ss with
    | [] => []
    | s :: r => cS c n s :: cSs c n r
end
end

/-- the def statement of a name -/
structure Def where
  params : Arguments
  body : List Stmt
  scope : Scope

noncomputable def defIn (nm : Str) : List Stmt → Option Def
  | [] => none
  | .FunctionDef n a b _ _ _ sc _ _ _ :: r => if n == nm then some ⟨a, b, sc⟩ else defIn nm r
  | .ClassDef _ _ _ b _ _ _ _ _ _ _ :: r => defIn nm r
  | _ :: r => defIn nm r
noncomputable def clsIn' (nm : Str) : List Stmt → List Stmt
  | [] => []
  | .ClassDef n _ _ b _ _ _ _ _ _ _ :: r => if n == nm then b else clsIn' nm r
  | _ :: r => clsIn' nm r

/-- the slots of a def: its parameters, then the other names of its scope that it binds -/
noncomputable def slotsOf (d : Def) : List Str :=
  let ps := d.params.args.map (·.arg)
  ps ++ ((d.scope.names.filter fun p => (p.2 == .local || p.2 == .cell) && !ps.contains p.1).map (·.1))

noncomputable def ctxOf (d : Def) : Ctx := ⟨d.scope.names, (slotsOf d).zipIdx, (slotsOf d).length⟩

noncomputable def fnOfDef (g : Glb) (d : Def) : Fn := ⟨d.params.args.length, (slotsOf d).length + 1 - d.params.args.length, cSs g (ctxOf d) 60 d.body⟩

noncomputable def fnNames : List Str := ["__init__", "is_growing", "add_masks", "inner_squares", "add_rays", "add_pawns", "add_knights", "add_castles", "make_geometry", "_law_near", "solve", "_law_folds", "_law_is_whole", "law"]
noncomputable def attrNames : List Str := ["files", "ranks", "size", "full", "has_double", "has_castling", "file_masks", "rank_masks", "rays", "king", "knight", "pawn", "castles", "rights_lost"]
noncomputable def theGlb : Glb := ⟨[("NO_MATE", -1), ("OUTSIDE", -1), ("STRONG_MOVES", 0), ("WEAK_MOVES", 1)], ["STEP_FILES", "STEP_RANKS"], fnNames, "Geometry", attrNames⟩
noncomputable def theBody : List Stmt := PySem.Challenge.pw_tg0012_01.main.body
noncomputable def theDef (nm : Str) : Option Def := if nm == ("__init__" : Str) then defIn nm (clsIn' "Geometry" theBody) else defIn nm theBody
noncomputable def theFns : List Fn := fnNames.map fun nm => match theDef nm with | some d => fnOfDef theGlb d | none => ⟨0, 0, [.fail]⟩
noncomputable def theTups : List (List Int) := [[0, 1, 0, -1, 1, 1, -1, -1], [1, 0, -1, 0, 1, -1, -1, 1]]

end Mine

-- M1b
namespace Mine
open PySem
theorem evq_fail (c : Cfg)  {x0 : List V} {x1 : St} : ev c (.fail ) x0 x1 = none := rfl
theorem evq_int (c : Cfg) {i} {x0 : List V} {st : St} : ev c (.int i) x0 st = some (.int i, st) := rfl
theorem evq_bool (c : Cfg) {b} {x0 : List V} {st : St} : ev c (.bool b) x0 st = some (.bool b, st) := rfl
theorem evq_none (c : Cfg)  {x0 : List V} {st : St} : ev c (.none ) x0 st = some (.none, st) := rfl
theorem evq_var (c : Cfg) {i} {fr : List V} {st : St} : ev c (.var i) fr st = (getV fr i).map fun v => (v, st) := rfl
theorem evq_glob (c : Cfg) {i} {x0 : List V} {st : St} : ev c (.glob i) x0 st = some (.int i, st) := rfl
theorem evq_gtup (c : Cfg) {t i} {fr : List V} {st : St} : ev c (.gtup t i) fr st = (ev c i fr st).bind fun p => match p.1 with
    | .int j => if 0 ≤ j ∧ j < 100 then ((c.gt[t]?).bind fun xs => xs[j.toNat]?).map fun x => (.int x, p.2) else none
    | _ => none := rfl
theorem evq_bin (c : Cfg) {op a b} {fr : List V} {st : St} : ev c (.bin op a b) fr st = (ev c a fr st).bind fun p => (ev c b fr p.2).bind fun q => binV op p.1 q.1 q.2 := rfl
theorem evq_un (c : Cfg) {op a} {fr : List V} {st : St} : ev c (.un op a) fr st = (ev c a fr st).bind fun p => (unV op p.1).map fun v => (v, p.2) := rfl
theorem evq_cmp (c : Cfg) {op a b} {fr : List V} {st : St} : ev c (.cmp op a b) fr st = (ev c a fr st).bind fun p => (ev c b fr p.2).bind fun q => (cmpV op p.1 q.1 q.2).map fun r => (.bool r, q.2) := rfl
theorem evq_ite (c : Cfg) {t a b} {fr : List V} {st : St} : ev c (.ite t a b) fr st = (ev c t fr st).bind fun p => match p.1 with
    | .bool true => ev c a fr p.2
    | .bool false => ev c b fr p.2
    | _ => none := rfl
theorem evq_notB (c : Cfg) {a} {fr : List V} {st : St} : ev c (.notB a) fr st = (ev c a fr st).bind fun p => match p.1 with
    | .bool r => some (.bool (!r), p.2)
    | _ => none := rfl
theorem evq_andB (c : Cfg) {a b} {fr : List V} {st : St} : ev c (.andB a b) fr st = (ev c a fr st).bind fun p => match p.1 with
    | .bool true => ev c b fr p.2
    | .bool false => some (.bool false, p.2)
    | _ => none := rfl
theorem evq_orB (c : Cfg) {a b} {fr : List V} {st : St} : ev c (.orB a b) fr st = (ev c a fr st).bind fun p => match p.1 with
    | .bool true => some (.bool true, p.2)
    | .bool false => ev c b fr p.2
    | _ => none := rfl
theorem evq_truthy (c : Cfg) {a} {fr : List V} {st : St} : ev c (.truthy a) fr st = (ev c a fr st).bind fun p => (truthyV p.1).map fun r => (.bool r, p.2) := rfl
theorem evq_andV (c : Cfg) {a b} {fr : List V} {st : St} : ev c (.andV a b) fr st = (ev c a fr st).bind fun p => (truthyV p.1).bind fun r => if r then ev c b fr p.2 else some p := rfl
theorem evq_orV (c : Cfg) {a b} {fr : List V} {st : St} : ev c (.orV a b) fr st = (ev c a fr st).bind fun p => (truthyV p.1).bind fun r => if r then some p else ev c b fr p.2 := rfl
theorem evq_lst (c : Cfg) {xs} {fr : List V} {st : St} : ev c (.lst xs) fr st = (evL c xs fr st).map fun p => (.ref p.2.length, p.2 ++ [.lst p.1]) := rfl
theorem evq_tup (c : Cfg) {xs} {fr : List V} {st : St} : ev c (.tup xs) fr st = (evL c xs fr st).map fun p => (.ref p.2.length, p.2 ++ [.tup p.1]) := rfl
theorem evq_comp (c : Cfg) {slot iter cond elt} {fr : List V} {st : St} : ev c (.comp slot iter cond elt) fr st = (ev c iter fr st).bind fun p => (srcOf p.2 p.1).bind fun s =>
      (compI (fun v st => (ev c cond (fr.set slot v) st).bind fun q => match q.1 with
        | .bool true => (ev c elt (fr.set slot v) q.2).map fun r => (some r.1, r.2)
        | .bool false => some (none, q.2)
        | _ => none) s.1 s.2 p.2.length c.N 0 (p.2 ++ [.lst []])).map fun st' => (.ref p.2.length, st') := rfl
theorem evq_len (c : Cfg) {a} {fr : List V} {st : St} : ev c (.len a) fr st = (ev c a fr st).bind fun p => (lenV p.2 p.1).map fun (n : Nat) => (V.int (n : Int), p.2) := rfl
theorem evq_range1 (c : Cfg) {a} {fr : List V} {st : St} : ev c (.range1 a) fr st = (ev c a fr st).bind fun p => match p.1 with
    | .int b => if smallI b then some (.ref p.2.length, p.2 ++ [.rng 0 b 1]) else none
    | _ => none := rfl
theorem evq_range3 (c : Cfg) {a b d} {fr : List V} {st : St} : ev c (.range3 a b d) fr st = (ev c a fr st).bind fun p => (ev c b fr p.2).bind fun q => (ev c d fr q.2).bind fun r => match p.1, q.1, r.1 with
    | .int x, .int y, .int z => if smallI x ∧ smallI y ∧ smallI z ∧ z ≠ 0 then some (.ref r.2.length, r.2 ++ [.rng x y z]) else none
    | _, _, _ => none := rfl
theorem evq_listOf (c : Cfg) {a} {fr : List V} {st : St} : ev c (.listOf a) fr st = (ev c a fr st).bind fun p => match p.1 with
    | .ref k => match p.2[k]? with
      | some (.rng x y z) => some (.ref p.2.length, p.2 ++ [.lst (intsUp x z (rngLen x y z))])
      | _ => none
    | _ => none := rfl
theorem evq_min (c : Cfg) {a} {fr : List V} {st : St} : ev c (.min a) fr st = (ev c a fr st).bind fun p => match p.1 with
    | .ref k => match p.2[k]? with
      | some (.lst xs) => (minL xs).map fun i => (.int i, p.2)
      | _ => none
    | _ => none := rfl
theorem evq_intOf (c : Cfg) {a} {fr : List V} {st : St} : ev c (.intOf a) fr st = (ev c a fr st).bind fun p => match p.1 with
    | .bool b => some (.int (if b then 1 else 0), p.2)
    | _ => none := rfl
theorem evq_call (c : Cfg) {f args} {fr : List V} {st : St} : ev c (.call f args) fr st = (evL c args fr st).bind fun p => c.C f p.1 p.2 := rfl
theorem evq_new (c : Cfg) {args} {fr : List V} {st : St} : ev c (.new args) fr st = (evL c args fr st).bind fun p =>
      (c.C 0 (.ref (p.2.length + 1) :: p.1) (p.2 ++ [.dct [], .inst p.2.length])).bind fun q => match q.1 with
        | .none => some (.ref (p.2.length + 1), q.2)
        | _ => none := rfl
theorem evq_append (c : Cfg) {a x} {fr : List V} {st : St} : ev c (.append a x) fr st = (ev c a fr st).bind fun p => match p.1 with
    | .ref k => if (lenV p.2 (.ref k)).isSome then (ev c x fr p.2).bind fun q => (pushV q.2 k q.1).map fun st' => (.none, st') else none
    | _ => none := rfl
theorem evq_extend (c : Cfg) {a x} {fr : List V} {st : St} : ev c (.extend a x) fr st = (ev c a fr st).bind fun p => match p.1 with
    | .ref k => if (lenV p.2 (.ref k)).isSome then (ev c x fr p.2).bind fun q => match q.1 with
      | .ref j => match q.2[k]?, q.2[j]? with
        | some (.lst xs), some (.lst ys) => if k ≠ j ∧ xs.length + ys.length < lim then some (.none, q.2.set k (.lst (xs ++ ys))) else none
        | _, _ => none
      | _ => none else none
    | _ => none := rfl
theorem evq_attr (c : Cfg) {a nm} {fr : List V} {st : St} : ev c (.attr a nm) fr st = (ev c a fr st).bind fun p => (attrV p.2 p.1 nm).map fun v => (v, p.2) := rfl
theorem evq_sub (c : Cfg) {a i} {fr : List V} {st : St} : ev c (.sub a i) fr st = (ev c a fr st).bind fun p => (ev c i fr p.2).bind fun q => (subV q.2 p.1 q.1).map fun v => (v, q.2) := rfl
theorem evq_slice (c : Cfg) {a lo hi} {fr : List V} {st : St} : ev c (.slice a lo hi) fr st = (ev c a fr st).bind fun p => (ev c lo fr p.2).bind fun q => (ev c hi fr q.2).bind fun r =>
      match p.1 with
      | .scr => (sliceL (c.scr.map .int) q.1 r.1).map fun ys => (.ref r.2.length, r.2 ++ [.lst ys])
      | .ref k => match r.2[k]? with
        | some (.lst xs) => (sliceL xs q.1 r.1).map fun ys => (.ref r.2.length, r.2 ++ [.lst ys])
        | _ => none
      | _ => none := rfl
theorem evlq_nil (c : Cfg)  {x0 : List V} {st : St} : evL c [] x0 st = some ([], st) := rfl
theorem evlq_cons (c : Cfg) {e r} {fr : List V} {st : St} : evL c (e :: r) fr st = (ev c e fr st).bind fun p => (evL c r fr p.2).map fun q => (p.1 :: q.1, q.2) := rfl
theorem exq_fail (c : Cfg)  {x0 : List V} {x1 : St} : ex c (.fail ) x0 x1 = none := rfl
theorem exq_set (c : Cfg) {i e} {fr : List V} {st : St} : ex c (.set i e) fr st = (ev c e fr st).map fun p => (.next, fr.set i p.1, p.2) := rfl
theorem exq_setTup (c : Cfg) {is e} {fr : List V} {st : St} : ex c (.setTup is e) fr st = (ev c e fr st).bind fun p => match p.1 with
    | .ref k => match p.2[k]? with
      | some (.tup xs) => if xs.length = is.length then some (.next, setSlots is xs fr, p.2) else none
      | _ => none
    | _ => none := rfl
theorem exq_setTupR (c : Cfg) {is e} {fr : List V} {st : St} : ex c (.setTupR is e) fr st = (ev c e fr st).bind fun p => match p.1 with
    | .ref k => match p.2[k]? with
      | some (.tup xs) => if xs.length = is.length then some (.next, setSlots is.reverse xs.reverse fr, p.2) else none
      | _ => none
    | _ => none := rfl
theorem exq_setItem (c : Cfg) {a i v} {fr : List V} {st : St} : ex c (.setItem a i v) fr st = (ev c v fr st).bind fun p => (ev c a fr p.2).bind fun q => (ev c i fr q.2).bind fun r =>
      (putItem r.2 q.1 r.1 p.1).map fun st' => (.next, fr, st') := rfl
theorem exq_setAttr (c : Cfg) {a nm v} {fr : List V} {st : St} : ex c (.setAttr a nm v) fr st = (ev c v fr st).bind fun p => (ev c a fr p.2).bind fun q => (putAttr q.2 q.1 nm p.1).map fun st' => (.next, fr, st') := rfl
theorem exq_augVar (c : Cfg) {i op e} {fr : List V} {st : St} : ex c (.augVar i op e) fr st = (getV fr i).bind fun old => (ev c e fr st).bind fun p => match old, p.1 with
    | .int a, .int b => match op with
      | .Add => some (.next, fr.set i (.int (a + b)), p.2)
      | .BitOr => some (.next, fr.set i (.int (Builtin.bitOr a b)), p.2)
      | _ => none
    | _, _ => none := rfl
theorem exq_augItem (c : Cfg) {a i op e} {fr : List V} {st : St} : ex c (.augItem a i op e) fr st = (ev c a fr st).bind fun p => (ev c i fr p.2).bind fun q => (subV q.2 p.1 q.1).bind fun old =>
      (ev c e fr q.2).bind fun r => match old, r.1 with
      | .int x, .int y => match op with
        | .Sub => (putItem r.2 p.1 q.1 (.int (x - y))).map fun st' => (.next, fr, st')
        | .BitOr => (putItem r.2 p.1 q.1 (.int (Builtin.bitOr x y))).map fun st' => (.next, fr, st')
        | _ => none
      | _, _ => none := rfl
theorem exq_expr (c : Cfg) {e} {fr : List V} {st : St} : ex c (.expr e) fr st = (ev c e fr st).map fun p => (.next, fr, p.2) := rfl
theorem exq_ret (c : Cfg) {e} {fr : List V} {st : St} : ex c (.ret e) fr st = (ev c e fr st).map fun p => (.ret p.1, fr, p.2) := rfl
theorem exq_ite (c : Cfg) {t a b} {fr : List V} {st : St} : ex c (.ite t a b) fr st = (ev c t fr st).bind fun p => match p.1 with
    | .bool true => exs c a fr p.2
    | .bool false => exs c b fr p.2
    | _ => none := rfl
theorem exq_for_ (c : Cfg) {slot it body} {fr : List V} {st : St} : ex c (.for_ slot it body) fr st = (ev c it fr st).bind fun p => (srcOf p.2 p.1).bind fun s => forI (fun fr st => exs c body fr st) slot s.1 s.2 c.N 0 fr p.2 := rfl
theorem exq_whl (c : Cfg) {t body} {fr : List V} {st : St} : ex c (.whl t body) fr st = whlI (fun fr st => ev c t fr st) (fun fr st => exs c body fr st) c.N fr st := rfl
theorem exsq_nil (c : Cfg)  {fr : List V} {st : St} : exs c [] fr st = some (.next, fr, st) := rfl
theorem exsq_cons (c : Cfg) {s r} {fr : List V} {st : St} : exs c (s :: r) fr st = (ex c s fr st).bind fun p => match p.1 with
    | .next => exs c r p.2.1 p.2.2
    | .ret _ => some p := rfl
theorem binq_0 {a b} {st : St} : binV .Add (.int a) (.int b) st = some (.int (a + b), st) := rfl
theorem binq_1 {a b} {st : St} : binV .Sub (.int a) (.int b) st = some (.int (a - b), st) := rfl
theorem binq_2 {a b} {st : St} : binV .Mult (.int a) (.int b) st = if a.natAbs < 2 ^ 60 ∧ b.natAbs < 2 ^ 60 then some (.int (a * b), st) else none := rfl
theorem binq_3 {a b} {st : St} : binV .FloorDiv (.int a) (.int b) st = if b ≠ 0 ∧ b.natAbs < 1000000000 then some (.int (a.fdiv b), st) else none := rfl
theorem binq_4 {a b} {st : St} : binV .Mod (.int a) (.int b) st = if b ≠ 0 then some (.int (a.fmod b), st) else none := rfl
theorem binq_5 {a n} {st : St} : binV .Pow (.int a) (.int n) st = if 0 ≤ n ∧ n ≤ 1000 ∧ a.natAbs < 2 ^ 64 then some (.int (a ^ n.toNat), st) else none := rfl
theorem binq_6 {a n} {st : St} : binV .LShift (.int a) (.int n) st = if 0 ≤ n ∧ n ≤ 1000 ∧ a.natAbs < 2 ^ 64 then some (.int (a * 2 ^ n.toNat), st) else none := rfl
theorem binq_7 {a n} {st : St} : binV .RShift (.int a) (.int n) st = if 0 ≤ n then some (.int (a.fdiv (2 ^ n.toNat)), st) else none := rfl
theorem binq_8 {a b} {st : St} : binV .BitAnd (.int a) (.int b) st = some (.int (Builtin.bitAnd a b), st) := rfl
theorem binq_9 {a b} {st : St} : binV .BitOr (.int a) (.int b) st = some (.int (Builtin.bitOr a b), st) := rfl
theorem binq_10 {i j} {st : St} : binV .Add (.ref i) (.ref j) st = match st[i]?, st[j]? with
    | some (.lst xs), some (.lst ys) => if xs.length + ys.length < lim then some (.ref st.length, st ++ [.lst (xs ++ ys)]) else none
    | _, _ => none := rfl
theorem binq_11 {i k} {st : St} : binV .Mult (.ref i) (.int k) st = match st[i]? with
    | some (.lst [x]) => if 0 ≤ k ∧ k < 100000 then some (.ref st.length, st ++ [.lst (List.replicate k.toNat x)]) else none
    | _ => none := rfl
theorem cmpq_0 {a b} {st : St} : cmpV .Eq (.int a) (.int b) st = some (a == b) := rfl
theorem cmpq_1 {a b} {st : St} : cmpV .NotEq (.int a) (.int b) st = some (a != b) := rfl
theorem cmpq_2 {a b} {st : St} : cmpV .Lt (.int a) (.int b) st = some (decide (a < b)) := rfl
theorem cmpq_3 {a b} {st : St} : cmpV .LtE (.int a) (.int b) st = some (decide (a ≤ b)) := rfl
theorem cmpq_4 {a b} {st : St} : cmpV .Gt (.int a) (.int b) st = some (decide (a > b)) := rfl
theorem cmpq_5 {a b} {st : St} : cmpV .GtE (.int a) (.int b) st = some (decide (a ≥ b)) := rfl
theorem cmpq_6 {a b} {st : St} : cmpV .NotEq (.bool a) (.bool b) st = some (a != b) := rfl
theorem cmpq_7 {a k} {st : St} : cmpV .In (.int a) (.ref k) st = match st[k]? with
    | some (.lst xs) => if allInts xs then some (xs.contains (.int a)) else none
    | _ => none := rfl
theorem cmpq_8 {a k} {st : St} : cmpV .NotIn (.int a) (.ref k) st = match st[k]? with
    | some (.lst xs) => if allInts xs then some (!xs.contains (.int a)) else none
    | _ => none := rfl
theorem cmpq_9 {i j} {st : St} : cmpV .Eq (.ref i) (.ref j) st = match st[i]?, st[j]? with
    | some (.lst xs), some (.lst []) => if allInts xs then some xs.isEmpty else none
    | _, _ => none := rfl
end Mine

-- M2
/-! The relation between the abstract store and the model's heap; what keeps it. -/
namespace Mine
open PySem PySem.W PyProof.Rows
set_option maxRecDepth 10000

structure Sta where
  w : World
  h0 : Heap
  s0 : Shared
  sc : Addr
  scr : List Int
  C : Addr
  fa : Nat → Addr
  mg : Str → Option Value
  mb : Str → Option Value

noncomputable def Pre (φ φ' : List Addr) : Prop := ∀ (k : Nat) (a : Addr), φ[k]? = some a → φ'[k]? = some a
theorem Pre.refl (φ : List Addr) : Pre φ φ := fun _ _ h => h
theorem Pre.trans {a b c : List Addr} (h : Pre a b) (g : Pre b c) : Pre a c := fun k x e => g k x (h k x e)
theorem Pre.push (φ : List Addr) (a : Addr) : Pre φ (φ ++ [a]) := fun k x e => by
  have := (List.getElem?_eq_some_iff.mp e).1
  rw [List.getElem?_append_left this]; exact e

inductive VR (sc : Addr) (φ : List Addr) : V → Value → Prop
  | none : VR sc φ .none .none
  | int (i t) : VR sc φ (.int i) (.int i t)
  | bool (b) : VR sc φ (.bool b) (.bool b)
  | ref (k a) : φ[k]? = some a → VR sc φ (.ref k) (.ref a)
  | scr : VR sc φ .scr (.ref sc)
theorem VR.mono {sc : Addr} {φ φ' : List Addr} {v : V} {c : Value} (h : VR sc φ v c) (p : Pre φ φ') : VR sc φ' v c := by
  cases h with
  | none => exact .none
  | int i t => exact .int i t
  | bool b => exact .bool b
  | ref k a e => exact .ref k a (p k a e)
  | scr => exact .scr

noncomputable def VRs (sc : Addr) (φ : List Addr) (xs : List V) (vs : List Value) : Prop :=
  vs.length = xs.length ∧ ∀ (i : Nat) (x : V), xs[i]? = some x → ∃ v, vs[i]? = some v ∧ VR sc φ x v
theorem VRs.mono {sc : Addr} {φ φ' : List Addr} {xs : List V} {vs : List Value} (h : VRs sc φ xs vs) (p : Pre φ φ') : VRs sc φ' xs vs :=
  ⟨h.1, fun i x e => let ⟨v, a, b⟩ := h.2 i x e; ⟨v, a, b.mono p⟩⟩
theorem VRs.nil {sc : Addr} {φ : List Addr} : VRs sc φ [] [] := ⟨rfl, fun i x e => by simp at e⟩
theorem VRs.cons {sc : Addr} {φ : List Addr} {x : V} {v : Value} {xs : List V} {vs : List Value} (h : VR sc φ x v) (r : VRs sc φ xs vs) : VRs sc φ (x :: xs) (v :: vs) := by
  refine ⟨by simp [r.1], fun i y e => ?_⟩
  cases i with
  | zero => simp at e; subst e; exact ⟨v, by simp, h⟩
  | succ i => simp at e; obtain ⟨u, a, b⟩ := r.2 i y e; exact ⟨u, by simpa using a, b⟩
theorem VRs.append {sc : Addr} {φ : List Addr} {xs ys : List V} {us vs : List Value} (h : VRs sc φ xs us) (r : VRs sc φ ys vs) : VRs sc φ (xs ++ ys) (us ++ vs) := by
  refine ⟨by simp [r.1, h.1], fun i y e => ?_⟩
  by_cases hi : i < xs.length
  · rw [List.getElem?_append_left hi] at e
    rw [List.getElem?_append_left (by rw [h.1]; exact hi)]
    exact h.2 i y e
  · rw [List.getElem?_append_right (by omega)] at e
    rw [List.getElem?_append_right (by rw [h.1]; omega), h.1]
    exact r.2 _ y e
theorem VRs.snoc {sc : Addr} {φ : List Addr} {xs : List V} {us : List Value} {x : V} {v : Value} (h : VRs sc φ xs us) (r : VR sc φ x v) : VRs sc φ (xs ++ [x]) (us ++ [v]) := h.append (.cons r .nil)
theorem VRs.set {sc : Addr} {φ : List Addr} {xs : List V} {us : List Value} {x : V} {v : Value} (h : VRs sc φ xs us) (r : VR sc φ x v) (j : Nat) : VRs sc φ (xs.set j x) (us.set j v) := by
  refine ⟨by simp [h.1], fun i y e => ?_⟩
  rw [List.getElem?_set] at e ⊢
  rw [h.1]
  by_cases hj : j = i
  · subst hj
    simp only [if_true] at e ⊢
    by_cases hl : j < xs.length
    · rw [if_pos hl] at e ⊢; cases e; exact ⟨v, rfl, r⟩
    · rw [if_neg hl] at e; cases e
  · rw [if_neg hj] at e ⊢; exact h.2 i y e
theorem VRs.take {sc : Addr} {φ : List Addr} {xs : List V} {us : List Value} (h : VRs sc φ xs us) (j : Nat) : VRs sc φ (xs.take j) (us.take j) := by
  refine ⟨by simp [h.1], fun i y e => ?_⟩
  rw [List.getElem?_take] at e ⊢
  by_cases hj : i < j
  · rw [if_pos hj] at e ⊢; exact h.2 i y e
  · rw [if_neg hj] at e; cases e
theorem VRs.drop {sc : Addr} {φ : List Addr} {xs : List V} {us : List Value} (h : VRs sc φ xs us) (j : Nat) : VRs sc φ (xs.drop j) (us.drop j) := by
  refine ⟨by simp [h.1], fun i y e => ?_⟩
  rw [List.getElem?_drop] at e ⊢
  exact h.2 _ y e
theorem VRs.rep {sc : Addr} {φ : List Addr} {x : V} {v : Value} (r : VR sc φ x v) (n : Nat) : VRs sc φ (List.replicate n x) (List.replicate n v) := by
  refine ⟨by simp, fun i y e => ?_⟩
  rw [List.getElem?_replicate] at e ⊢
  by_cases hj : i < n
  · rw [if_pos hj] at e ⊢; cases e; exact ⟨v, rfl, r⟩
  · rw [if_neg hj] at e; cases e

/-- the entries of the one object's dict -/
inductive FR (sc : Addr) (φ : List Addr) : List (Nat × V) → List DictEntry → Prop
  | nil : FR sc φ [] []
  | cons {nm : Nat} {x : Str} {t : Tok} {hsh : Int} {v : V} {c : Value} {fs : List (Nat × V)} {es : List DictEntry} : attrNames[nm]? = some x → VR sc φ v c → FR sc φ fs es → FR sc φ ((nm, v) :: fs) (⟨hsh, .str x t, c⟩ :: es)
theorem FR.mono {sc : Addr} {φ φ' : List Addr} {fs : List (Nat × V)} {es : List DictEntry} (h : FR sc φ fs es) (p : Pre φ φ') : FR sc φ' fs es := by
  induction h with
  | nil => exact .nil
  | cons a b _ ih => exact .cons a (b.mono p) ih

noncomputable def OR (P : Sta) (φ : List Addr) (h : Heap) (a : Addr) : O → Prop
  | .lst xs => xs.length ≤ lim ∧ ∃ vs : List Value, h.PlainList a vs.toArray ∧ VRs P.sc φ xs vs
  | .tup xs => xs.length ≤ lim ∧ ∃ (vs : List Value) (n : Nat), h.get? a = some { cls := .type "tuple", data := .seq vs.toArray n } ∧ VRs P.sc φ xs vs
  | .rng x y z => (∃ t u v, IsRange h a x y z t u v) ∧ smallI x = true ∧ smallI y = true ∧ smallI z = true ∧ z ≠ 0
  | .inst d => ∃ da, φ[d]? = some da ∧ h.get? a = some (instObj P.C da)
  | .dct fs => ∃ es n, h.get? a = some (dictOf es n) ∧ FR P.sc φ fs es ∧ es.length ≤ 200
theorem OR.some {P : Sta} {φ : List Addr} {h : Heap} {a : Addr} {o : O} (x : OR P φ h a o) : ∃ ob, h.get? a = some ob := by
  cases o with
  | lst xs => obtain ⟨_, vs, ⟨n, e⟩, _⟩ := x; exact ⟨_, e⟩
  | tup xs => obtain ⟨_, vs, n, e, _⟩ := x; exact ⟨_, e⟩
  | rng x y z => obtain ⟨⟨t, u, v, e⟩, _⟩ := x; exact ⟨_, e⟩
  | inst d => obtain ⟨da, _, e⟩ := x; exact ⟨_, e⟩
  | dct fs => obtain ⟨es, n, e, _⟩ := x; exact ⟨_, e⟩
theorem OR.keep {P : Sta} {φ φ' : List Addr} {h h' : Heap} {a : Addr} {o : O} (x : OR P φ h a o) (p : Pre φ φ') (k : ∀ ob, h.get? a = Option.some ob → h'.get? a = Option.some ob) : OR P φ' h' a o := by
  cases o with
  | lst xs => obtain ⟨hl, vs, e, f⟩ := x; exact ⟨hl, vs, e.at k, f.mono p⟩
  | tup xs => obtain ⟨hl, vs, n, e, f⟩ := x; exact ⟨hl, vs, n, k _ e, f.mono p⟩
  | rng x y z => obtain ⟨⟨t, u, v, e⟩, f⟩ := x; exact ⟨⟨t, u, v, k _ e⟩, f⟩
  | inst d => obtain ⟨da, f, e⟩ := x; exact ⟨da, p _ _ f, k _ e⟩
  | dct fs => obtain ⟨es, n, e, f, g⟩ := x; exact ⟨es, n, k _ e, f.mono p, g⟩

structure EnvOK (P : Sta) (env : Env) (ctx : Ctx) (B : Addr → Option Obj) : Prop where
  kind : env.scope.kind = .function
  glb : env.globals = mainGlobals
  blt : env.builtins = builtinsNs
  names : env.scope.names = ctx.names
  inj : ∀ x y i, (x, i) ∈ ctx.vars → (y, i) ∈ ctx.vars → x = y
  fn : ∀ x i j, (x, i) ∈ ctx.vars → (x, j) ∈ ctx.vars → i = j
  below : ∀ x i, (x, i) ∈ ctx.vars → i < ctx.next
  known : ∀ x i, (x, i) ∈ ctx.vars → env.kindOf x = some .local ∨ env.kindOf x = some .cell ∨ env.kindOf x = some .free
  good : ∀ x i, (x, i) ∈ ctx.vars → (x == ("__debug__" : Str)) = false ∧ (x == ("__classdict__" : Str)) = false
  hB : ∀ b o, P.h0.get? b = some o → B b = some o
  locB : B env.locals = none

structure R (P : Sta) (env : Env) (ctx : Ctx) (B : Addr → Option Obj) (fr : List V) (st : St) (φ : List Addr) (s : Shared) : Prop where
  len : φ.length = st.length
  objs : ∀ (k : Nat) (o : O), st[k]? = some o → ∃ a, φ[k]? = some a ∧ OR P φ s.heap a o
  nodup : ∀ (i j : Nat) (a : Addr), φ[i]? = some a → φ[j]? = some a → i = j
  base : ∀ b o, B b = some o → s.heap.get? b = some o
  off : ∀ a ∈ φ, B a = none
  loc : ∃ m, s.heap.Ns env.locals m ∧ ∀ (x : Str) (i : Nat) (v : V), (x, i) ∈ ctx.vars → env.kindOf x = some .local → fr[i]? = some v → v ≠ .undef → ∃ c, m x = some c ∧ VR P.sc φ v c
  cel : ∀ (x : Str) (i : Nat), (x, i) ∈ ctx.vars → (env.kindOf x = some .cell ∨ env.kindOf x = some .free) →
    ∃ c ov, env.cells.lookup x = some c ∧ s.heap.IsCell c ov ∧ ∀ v, fr[i]? = some v → v ≠ .undef → ∃ cv, ov = some cv ∧ VR P.sc φ v cv
  celoff : ∀ x c, env.cells.lookup x = some c → c ∉ φ ∧ c ≠ env.locals ∧ ∃ ov, s.heap.IsCell c ov
  locoff : env.locals ∉ φ
  gens : s.gens = P.s0.gens
  os : s.os = P.s0.os

section
variable {P : Sta} {env : Env} {ctx : Ctx} {B : Addr → Option Obj} {fr : List V} {st : St} {φ : List Addr} {s s' : Shared}

theorem R.obj (r : R P env ctx B fr st φ s) {k : Nat} {a : Addr} {o : O} (hk : st[k]? = some o) (ha : φ[k]? = some a) : OR P φ s.heap a o := by
  obtain ⟨a', e, h⟩ := r.objs k o hk
  rw [ha] at e; cases e; exact h
theorem R.lt (r : R P env ctx B fr st φ s) {a : Addr} (ha : a ∈ φ) : a < s.heap.objs.size := by
  obtain ⟨k, hk⟩ := List.mem_iff_getElem?.mp ha
  have hl := (List.getElem?_eq_some_iff.mp hk).1
  rw [r.len] at hl
  obtain ⟨o, ho⟩ := (r.obj (List.getElem?_eq_getElem hl) hk).some
  exact Heap.lt_size ho
theorem R.Blt (r : R P env ctx B fr st φ s) {a : Addr} (ha : s.heap.objs.size ≤ a) : B a = none := by
  cases h : B a with
  | none => rfl
  | some o => exact absurd (Nat.lt_of_lt_of_le (Heap.lt_size (r.base _ _ h)) ha) (Nat.lt_irrefl _)
theorem R.loclt (r : R P env ctx B fr st φ s) : env.locals < s.heap.objs.size := let ⟨_, h, _⟩ := r.loc; h.lt

/-- a change off the tracked objects, the frozen ones, the frame -/
theorem R.keep (r : R P env ctx B fr st φ s)
    (hk : ∀ b o, s.heap.get? b = some o → (b ∈ φ ∨ B b ≠ none ∨ b = env.locals ∨ ∃ x, env.cells.lookup x = some b) → s'.heap.get? b = some o)
    (hg : s'.gens = s.gens := by rfl) (ho : s'.os = s.os := by rfl) : R P env ctx B fr st φ s' where
  len := r.len
  objs := fun k o e => let ⟨a, ha, h⟩ := r.objs k o e; ⟨a, ha, h.keep (Pre.refl _) fun ob eo => hk _ _ eo (.inl (List.mem_iff_getElem?.mpr ⟨k, ha⟩))⟩
  nodup := r.nodup
  base := fun b o e => hk _ _ (r.base b o e) (.inr (.inl (by rw [e]; simp)))
  off := r.off
  loc := let ⟨m, ⟨o, es, ep, e, q⟩, h⟩ := r.loc; ⟨m, ⟨o, es, ep, hk _ _ e (.inr (.inr (.inl rfl))), q⟩, h⟩
  cel := fun x i hx hc => let ⟨c, ov, hl, ⟨o, e, q⟩, h⟩ := r.cel x i hx hc; ⟨c, ov, hl, ⟨o, hk _ _ e (.inr (.inr (.inr ⟨x, hl⟩))), q⟩, h⟩
  celoff := fun x c hl => let ⟨h1, h2, ov, o, e, q⟩ := r.celoff x c hl; ⟨h1, h2, ov, o, hk _ _ e (.inr (.inr (.inr ⟨x, hl⟩))), q⟩
  locoff := r.locoff
  gens := hg.trans r.gens
  os := ho.trans r.os
theorem R.grow (r : R P env ctx B fr st φ s) (hk : ∀ b o, s.heap.get? b = some o → s'.heap.get? b = some o)
    (hg : s'.gens = s.gens := by rfl) (ho : s'.os = s.os := by rfl) : R P env ctx B fr st φ s' := r.keep (fun b o e _ => hk b o e) hg ho
theorem R.same (r : R P env ctx B fr st φ s) (hh : s'.heap = s.heap := by rfl)
    (hg : s'.gens = s.gens := by rfl) (ho : s'.os = s.os := by rfl) : R P env ctx B fr st φ s' := r.grow (fun b o e => by rw [hh]; exact e) hg ho
/-- a new object beside the tracked ones has changed (an iterator) -/
theorem R.but {I : Addr} (r : R P env ctx B fr st φ s) (hs : ∀ b o, b ≠ I → s.heap.get? b = some o → s'.heap.get? b = some o) (h1 : I ∉ φ) (h2 : B I = none) (h3 : I ≠ env.locals)
    (h4 : ∀ x, env.cells.lookup x ≠ some I) (hg : s'.gens = s.gens := by rfl) (ho : s'.os = s.os := by rfl) : R P env ctx B fr st φ s' := by
  refine r.keep (fun b o e hb => hs b o ?_ e) hg ho
  rintro rfl
  rcases hb with h | h | h | ⟨x, h⟩
  · exact h1 h
  · exact h h2
  · exact h3 h
  · exact h4 x h

/-- a new tracked object -/
theorem R.alloc (r : R P env ctx B fr st φ s) {o : O} {h' : Heap} (hk : ∀ b ob, s.heap.get? b = some ob → h'.get? b = some ob) (hh : s'.heap = h')
    {a : Addr} (ha : s.heap.objs.size ≤ a) (ho : OR P (φ ++ [a]) h' a o)
    (hg : s'.gens = s.gens := by rfl) (hos : s'.os = s.os := by rfl) : R P env ctx B fr (st ++ [o]) (φ ++ [a]) s' := by
  have hnew : a ∉ φ := fun hm => absurd (Nat.lt_of_lt_of_le (r.lt hm) ha) (Nat.lt_irrefl _)
  have r' : R P env ctx B fr st φ s' := r.grow (fun b ob e => by rw [hh]; exact hk b ob e) hg hos
  refine ⟨by simp [r.len], fun k o' e => ?_, fun i j b hi hj => ?_, r'.base, fun b hb => ?_, ?_, ?_, ?_, ?_, r'.gens, r'.os⟩
  · by_cases hl : k < st.length
    · rw [List.getElem?_append_left hl] at e
      obtain ⟨b, hb, q⟩ := r'.objs k o' e
      exact ⟨b, Pre.push φ a k b hb, q.keep (Pre.push φ a) fun _ h => h⟩
    · rw [List.getElem?_append_right (by omega)] at e
      have hk0 : k - st.length = 0 := by
        cases hq : k - st.length with
        | zero => rfl
        | succ n => rw [hq] at e; simp at e
      rw [hk0] at e; simp at e; subst e
      refine ⟨a, ?_, by rw [hh]; exact ho⟩
      rw [List.getElem?_append_right (by rw [r.len]; omega), r.len, hk0]; rfl
  · have key : ∀ i, (φ ++ [a])[i]? = some b → (φ[i]? = some b ∨ (i = φ.length ∧ b = a)) := fun i hi => by
      by_cases hl : i < φ.length
      · rw [List.getElem?_append_left hl] at hi; exact .inl hi
      · rw [List.getElem?_append_right (by omega)] at hi
        cases hq : i - φ.length with
        | zero => rw [hq] at hi; simp at hi; exact .inr ⟨by omega, hi.symm⟩
        | succ n => rw [hq] at hi; simp at hi
    rcases key i hi with h1 | ⟨h1, h1'⟩ <;> rcases key j hj with h2 | ⟨h2, h2'⟩
    · exact r.nodup i j b h1 h2
    · exact absurd (List.mem_iff_getElem?.mpr ⟨i, h2' ▸ h1⟩) hnew
    · exact absurd (List.mem_iff_getElem?.mpr ⟨j, h1' ▸ h2⟩) hnew
    · omega
  · rcases List.mem_append.mp hb with h | h
    · exact r.off b h
    · rw [List.mem_singleton.mp h]; exact r.Blt ha
  · obtain ⟨m, hm, q⟩ := r'.loc
    exact ⟨m, hm, fun x i v a1 a2 a3 a4 => let ⟨c, b1, b2⟩ := q x i v a1 a2 a3 a4; ⟨c, b1, b2.mono (Pre.push φ a)⟩⟩
  · intro x i hx hc
    obtain ⟨c, ov, h1, h2, h3⟩ := r'.cel x i hx hc
    exact ⟨c, ov, h1, h2, fun v a3 a4 => let ⟨cv, b1, b2⟩ := h3 v a3 a4; ⟨cv, b1, b2.mono (Pre.push φ a)⟩⟩
  · intro x c hc
    obtain ⟨h1, h2, h3⟩ := r'.celoff x c hc
    obtain ⟨_, _, ov, hov⟩ := r.celoff x c hc
    refine ⟨fun hm => ?_, h2, h3⟩
    rcases List.mem_append.mp hm with h | h
    · exact h1 h
    · rw [List.mem_singleton.mp h] at hov; exact absurd (Nat.lt_of_lt_of_le hov.lt ha) (Nat.lt_irrefl _)
  · intro hm
    rcases List.mem_append.mp hm with h | h
    · exact r.locoff h
    · rw [← List.mem_singleton.mp h] at ha; exact absurd (Nat.lt_of_lt_of_le r.loclt ha) (Nat.lt_irrefl _)

/-- a tracked object has changed -/
theorem R.update (r : R P env ctx B fr st φ s) (E : EnvOK P env ctx B) {k : Nat} {a : Addr} {o : O} (ha : φ[k]? = some a) (hs : ∀ b ob, b ≠ a → s.heap.get? b = some ob → s'.heap.get? b = some ob)
    (ho : OR P φ s'.heap a o) (hg : s'.gens = s.gens := by rfl) (hos : s'.os = s.os := by rfl) : R P env ctx B fr (st.set k o) φ s' := by
  have hm : a ∈ φ := List.mem_iff_getElem?.mpr ⟨k, ha⟩
  refine ⟨by simp [r.len], fun i o' e => ?_, r.nodup, fun b ob e => hs b ob ?_ (r.base b ob e), r.off, ?_, ?_, ?_, r.locoff, hg.trans r.gens, hos.trans r.os⟩
  · rw [List.getElem?_set] at e
    by_cases hi : k = i
    · subst hi
      simp only [if_true] at e
      split at e
      · cases e; exact ⟨a, ha, ho⟩
      · cases e
    · rw [if_neg hi] at e
      obtain ⟨b, hb, q⟩ := r.objs i o' e
      refine ⟨b, hb, q.keep (Pre.refl _) fun ob => hs b ob ?_⟩
      rintro rfl
      exact hi (r.nodup k i b ha hb)
  · rintro rfl
    rw [r.off b hm] at e; cases e
  · obtain ⟨m, ⟨ob, es, ep, e, q⟩, h⟩ := r.loc
    exact ⟨m, ⟨ob, es, ep, hs _ _ (fun e' => r.locoff (e' ▸ hm)) e, q⟩, h⟩
  · intro x i hx hc
    obtain ⟨c, ov, h1, ⟨ob, e, q⟩, h3⟩ := r.cel x i hx hc
    exact ⟨c, ov, h1, ⟨ob, hs _ _ (fun e' => (r.celoff x c h1).1 (e' ▸ hm)) e, q⟩, h3⟩
  · intro x c hc
    obtain ⟨h1, h2, ov, ob, e, q⟩ := r.celoff x c hc
    exact ⟨h1, h2, ov, ob, hs _ _ (fun e' => h1 (e' ▸ hm)) e, q⟩

/-! freezing -/
noncomputable def frz (F : List Addr) (h : Heap) (B : Addr → Option Obj) (b : Addr) : Option Obj := if b ∈ F then h.get? b else B b

theorem R.frz {F : List Addr} (r : R P env ctx B fr st φ s) (h1 : ∀ b ∈ F, b ∉ φ) : R P env ctx (frz F s.heap B) fr st φ s where
  len := r.len
  objs := r.objs
  nodup := r.nodup
  base := fun b o e => by
    unfold Mine.frz at e
    split at e
    · exact e
    · exact r.base b o e
  off := fun a ha => by
    unfold Mine.frz
    rw [if_neg (fun hm => h1 a hm ha)]; exact r.off a ha
  loc := r.loc
  cel := r.cel
  celoff := r.celoff
  locoff := r.locoff
  gens := r.gens
  os := r.os
theorem R.thw {F : List Addr} {h : Heap} (hb : ∀ b o, B b = some o → h.get? b = some o) (hF : ∀ b ∈ F, ∃ o, h.get? b = some o) (r : R P env ctx (Mine.frz F h B) fr st φ s) :
    R P env ctx B fr st φ s ∧ (∀ b ∈ F, b ∉ φ ∧ s.heap.get? b = h.get? b) := by
  have hn : ∀ a ∈ φ, a ∉ F := fun a ha hm => by
    have := r.off a ha
    unfold Mine.frz at this
    rw [if_pos hm] at this
    obtain ⟨o, ho⟩ := hF a hm
    rw [ho] at this; cases this
  refine ⟨⟨r.len, r.objs, r.nodup, fun b o e => r.base b o ?_, fun a ha => ?_, r.loc, r.cel, r.celoff, r.locoff, r.gens, r.os⟩, fun b hm => ⟨fun h' => hn b h' hm, ?_⟩⟩
  · unfold Mine.frz
    split
    · exact hb b o e
    · exact e
  · have := r.off a ha
    unfold Mine.frz at this
    rw [if_neg (hn a ha)] at this; exact this
  · obtain ⟨o, ho⟩ := hF b hm
    rw [ho]
    exact r.base b o (by unfold Mine.frz; rw [if_pos hm]; exact ho)
theorem EnvOK.frz {F : List Addr} {h : Heap} (E : EnvOK P env ctx B) (hb : ∀ b o, B b = some o → h.get? b = some o) (hF : env.locals ∉ F) : EnvOK P env ctx (Mine.frz F h B) :=
  { E with
    hB := fun b o e => by
      unfold Mine.frz
      split
      · exact hb b o (E.hB b o e)
      · exact E.hB b o e
    locB := by unfold Mine.frz; rw [if_neg hF]; exact E.locB }
end
end Mine

-- M3
/-! Operators: the abstract ones are the model's. -/
namespace Mine
open PySem PySem.W PyProof.Rows
set_option maxRecDepth 10000

structure AOK (k : Nat) (A : Around) : Prop where
  handled : A.handled = none
  depth : A.depth + 10 * k < 600
  units : A.units + 100 * k < 2000

theorem sizeLine_big : (lim + lim : Nat) ≤ sizeLine := by rw [sizeLine_eq]; decide

section
variable {sc : Addr} {φ : List Addr}
theorem ints_of : ∀ {xs : List V} {vs : List Value}, VRs sc φ xs vs → allInts xs = true → ∃ ns : List Int, xs = ns.map V.int ∧ IntsAre vs ns
  | [], vs, h, _ => ⟨[], rfl, by
      have := h.1; cases vs with
      | nil => exact .nil
      | cons => simp at this⟩
  | x :: r, vs, h, e => by
    cases vs with
    | nil => have := h.1; simp at this
    | cons v vs =>
      cases x <;> simp [allInts] at e
      rename_i i
      obtain ⟨ns, h1, h2⟩ := ints_of (xs := r) (vs := vs) ⟨by simpa using h.1, fun j y hy => by simpa using h.2 (j + 1) y (by simpa using hy)⟩ e
      obtain ⟨u, a, b⟩ := h.2 0 (.int i) rfl
      simp at a; subst a
      cases b
      exact ⟨i :: ns, by simp [h1], .cons i _ h2⟩
theorem contains_ints (a : Int) : ∀ ns : List Int, (ns.map V.int).contains (.int a) = ns.any (· == a)
  | [] => rfl
  | n :: r => by
    simp only [List.map_cons, List.contains_cons, List.any_cons, contains_ints a r]
    congr 1
    by_cases h : a = n
    · subst h; simp
    · have h1 : ¬ (V.int a = V.int n) := fun e => h (by cases e; rfl)
      have h2 : ¬ n = a := fun e => h e.symm
      rw [show (V.int a == V.int n) = decide (V.int a = V.int n) from rfl, decide_eq_false h1]
      simp [h2]
end

section
variable {prog : Program} {w : World} {A : Around} {E : Value → Shared → Prop} {s : Shared}

theorem setItem_plain {l : Addr} {items : Array Value} {k : Int} {t : Tok} {v : Value} {Q : Unit → Shared → Prop} (hl : s.heap.PlainList l items)
    (h0 : 0 ≤ k) (hfit : k < 2 ^ 63) (hn : k < items.size)
    (hQ : ∀ h', h'.PlainList l (items.setIfInBounds k.toNat v) → Heap.SameBut l s.heap h' → Q () { s with heap := h' }) :
    wpAny (model prog w) A (setItem (.ref l) (.int k t) v) Q E s := by
  obtain ⟨ne, ho⟩ := id hl
  have hT : s.TypeIs (.ref l) "list" := hl.isList.typeIs
  unfold setItem
  try with_reducible refine wpAny_holding ?_
  first | refine wpAny_bind (wpAny_pure ?_) | skip
  refine wpAny_bind (wpAny_sequenceKey hT (by decide) ?_)
  refine wpAny_bind (wpAny_callSpecial?_slot (name := Str.ofString "__setitem__") hT slot_list_setitem
    (wpAny_call_entry slot_list_setitem hT entry_list_setitem ?_ (args_list_setitem _ _ _)))
  show wpAny _ _ (Builtin.List.listSubscript? (.int k t) >>= _) _ _ s
  refine wpAny_bind (wpAny_listSubscript_int (fitsIndex_of h0 hfit) ?_)
  clear hfit
  obtain ⟨j, rfl⟩ := Int.eq_ofNat_of_zero_le h0
  have hj : j < items.size := by omega
  show wpAny _ _ ((seqItemAt l j >>= fun r => pure (r.map (j, ·))) >>= _) _ _ s
  refine wpAny_bind (wpAny_bind (wpAny_seqItemAt ho rfl (wpAny_pure ?_)))
  rw [Array.getElem?_eq_getElem hj]
  show wpAny _ _ (setSeqItemAt l j v >>= _) _ _ s
  have key : Obj.mapSeq (·.setIfInBounds j v) { cls := .type "list", data := .seq items ne } = { cls := .type "list", data := .seq (items.setIfInBounds j v) ne } := by
    simp [Obj.mapSeq]
  have hfin : (s.heap.update l (Obj.mapSeq (·.setIfInBounds j v))).PlainList l (items.setIfInBounds j v) := by
    refine ⟨ne, ?_⟩
    rw [Heap.get?_update_self _ ho (by rw [key]; rfl), key]
  refine wpAny_bind (wpAny_setSeqItemAt ho rfl ?_)
  first
    | exact wpAny_bind (wpAny_pure (wpAny_pure ⟨.none, rfl, wpAny_pure (hQ _ hfin (Heap.SameBut.update ..))⟩))
    | exact wpAny_pure ⟨.none, rfl, wpAny_pure (hQ _ hfin (Heap.SameBut.update ..))⟩

theorem add_lists' {l b : Addr} {vs ws : List Value} {Q : Value → Shared → Prop} (hl : s.heap.PlainList l vs.toArray) (hb : s.heap.PlainList b ws.toArray)
    (hsz : vs.length + ws.length ≤ sizeLine)
    (h : Q (.ref s.heap.objs.size) { s with heap := s.heap.push { cls := .type "list", data := .seq (vs ++ ws).toArray } }) :
    wpAny (model prog w) A (binaryOp .Add (.ref l) (.ref b)) Q E s := by
  obtain ⟨n, ho⟩ := hl
  obtain ⟨n2, ho2⟩ := hb
  have e : vs.toArray ++ ws.toArray = (vs ++ ws).toArray := by simp
  refine concat_meets ⟨_, ho, rfl⟩ ⟨_, ho2, rfl⟩ noFill_list_add seq_list_add PySem.F.slot_list_add PySem.F.entry_list_add (PySem.F.args_list_add_2 _ _) (list_addW l b vs.toArray ws.toArray n n2 none none #[] #[] (by simpa using hsz)) ⟨ho, ho2, ?_⟩
  rw [e]
  exact h

theorem flat_rep (v : Value) : ∀ n : Nat, List.foldl (fun x1 x2 => x1 ++ x2) #[] (List.replicate n #[v]) = (List.replicate n v).toArray := by
  intro n
  have : ∀ (n : Nat) (a : Array Value), List.foldl (fun x1 x2 => x1 ++ x2) a (List.replicate n #[v]) = a ++ (List.replicate n v).toArray := by
    intro n
    induction n with
    | zero => intro a; simp
    | succ n ih => intro a; rw [List.replicate_succ, List.foldl_cons, ih, List.replicate_succ]; apply Array.toList_inj.mp; simp
  rw [this]; simp

theorem mul_list' {l : Addr} {v : Value} {x : Int} {u : Tok} {Q : Value → Shared → Prop}
    (hl : s.heap.PlainList l [v].toArray) (hlo : 0 ≤ x) (hhi : x < 1000000)
    (h : Q (.ref s.heap.objs.size) { s with heap := s.heap.push { cls := .type "list", data := .seq (List.replicate x.toNat v).toArray } }) :
    wpAny (model prog w) A (binaryOp .Mult (.ref l) (.int x u)) Q E s := by
  obtain ⟨k, hl⟩ := hl
  refine wpAny_binaryOp_repeat_ref (T := "list") (U := "int") (by decide) ⟨_, hl, rfl⟩ (fun s' => typeIs_int s' x u) noFill_list_mul F.fills_int_mul F.slot_int_rmul repeat_list F.slot_int_index.lookup
    (call_meets F.slot_int_rmul (typeIs_int s x u) F.entry_int_rmul (F.args_int_rmul_2 _ _) (int___rmul___int_list x u l [v].toArray k)
      ⟨hl, rfl, ⟨_, hl, rfl⟩, call_meets F.slot_list_mul ⟨_, hl, rfl⟩ F.entry_list_mul (F.args_list_mul_2 _ _)
        (AutoListH.list___mul___list_int_3 l [v].toArray k x u (by simp [Builtin.List.listFitsIndex]; omega) (by rw [show [v].toArray.size = 1 from rfl]; omega) (by rw [show [v].toArray.size = 1 from rfl]; simp [Builtin.List.listTooLong, sizeLine]; omega))
        ⟨hl, ?_⟩⟩)
  have e : (List.foldl (fun x1 x2 => x1 ++ x2) #[] (List.replicate (if [v].toArray.isEmpty = true then 0 else x.toNat) [v].toArray)) = (List.replicate x.toNat v).toArray := by
    show List.foldl (fun x1 x2 => x1 ++ x2) #[] (List.replicate x.toNat #[v]) = _
    exact flat_rep v x.toNat
  rw [e]
  exact h
end

section
variable {prog : Program} {P : Sta} {env : Env} {ctx : Ctx} {B : Addr → Option Obj} {fr : List V} {st : St} {φ : List Addr} {s : Shared} {A : Around} {E : Value → Shared → Prop}

/-- what is wanted behind an expression -/
noncomputable abbrev K3 (P : Sta) (env : Env) (ctx : Ctx) (B : Addr → Option Obj) (fr : List V) (st' : St) (φ : List Addr) (v : V) (Q : Value → Shared → Prop) : Prop :=
  ∀ s' φ' c, R P env ctx B fr st' φ' s' → Pre φ φ' → VR P.sc φ' v c → Q c s'

theorem R.listAt (r : R P env ctx B fr st φ s) {k : Nat} {a : Addr} {xs : List V} (ha : φ[k]? = some a) (hk : st[k]? = some (.lst xs)) :
    xs.length ≤ lim ∧ ∃ vs : List Value, s.heap.PlainList a vs.toArray ∧ VRs P.sc φ xs vs := r.obj hk ha
/-- a new list is laid -/
theorem R.newList (r : R P env ctx B fr st φ s) {xs : List V} {vs : List Value} (hx : VRs P.sc φ xs vs) (hl : xs.length ≤ lim) :
    R P env ctx B fr (st ++ [.lst xs]) (φ ++ [s.heap.objs.size]) { s with heap := s.heap.push { cls := .type "list", data := .seq vs.toArray } } :=
  r.alloc (fun b ob e => Heap.get?_push_of_some _ e) rfl (Nat.le_refl _) ⟨hl, vs, ⟨0, Heap.get?_push_size _ rfl⟩, hx.mono (Pre.push _ _)⟩
theorem VR.last {sc : Addr} {a : Addr} (r : φ.length = st.length) : VR sc (φ ++ [a]) (.ref st.length) (.ref a) := .ref _ _ (by rw [← r]; simp)

theorem onInts_inv {α : Type} {g : Int → Int → Option α} {a b : V} {r : α} (h : onInts g a b = some r) : ∃ x y, a = .int x ∧ b = .int y ∧ g x y = some r := by
  cases a with
  | int x => cases b with
    | int y => exact ⟨x, y, rfl, rfl, h⟩
    | _ => exact nomatch h
  | _ => exact nomatch h

theorem binV_ok {op : Operator} {a b v : V} {ca cb : Value} {st' : St} {Q : Value → Shared → Prop} (r : R P env ctx B fr st φ s) (ha : VR P.sc φ a ca) (hb : VR P.sc φ b cb)
    (e : binV op a b st = some (v, st')) (h : K3 P env ctx B fr st' φ v Q) : wpAny (model prog P.w) A (binaryOp op ca cb) Q E s := by
  have tok : ∀ {i : Int} {st₁ : St}, some (V.int i, st) = some (v, st₁) → st₁ = st' → Q (.int i s.toks) { s with toks := s.toks + 1 } := by
    intro i st₁ e1 e2
    cases e1; subst e2
    exact h _ φ _ r.same (Pre.refl _) (.int _ _)
  have one : ∀ {g : Int → Int → Option (V × St)}, onInts g a b = some (v, st') → (∀ x y t u, ca = .int x t → cb = .int y u → g x y = some (v, st') → wpAny (model prog P.w) A (binaryOp op ca cb) Q E s) → wpAny (model prog P.w) A (binaryOp op ca cb) Q E s := by
    intro g e k
    obtain ⟨x, y, rfl, rfl, e⟩ := onInts_inv e
    cases ha; cases hb
    exact k _ _ _ _ rfl rfl e
  cases op with
  | Add =>
    have e : addV a b st = some (v, st') := e
    cases ha with
    | int x t => exact one e (fun x y t u e1 e2 e => by cases e1; cases e2; exact add_int (tok e rfl))
    | ref i a ha =>
      cases hb with
      | ref j b hb =>
        simp only [addV] at e
        split at e
        · rename_i hi hj
          split at e
          · rename_i hlen
            cases e
            obtain ⟨_, vs, hp, hv⟩ := r.listAt ha hi
            obtain ⟨_, ws, hp2, hw⟩ := r.listAt hb hj
            refine add_lists' hp hp2 (by rw [hv.1, hw.1]; have := sizeLine_big; omega) ?_
            exact h _ _ _ (r.newList (hv.append hw) (by simp; omega)) (Pre.push _ _) (.last r.len)
          · cases e
        · cases e
      | _ => exact nomatch e
    | _ => exact nomatch e
  | Sub => exact one e (fun x y t u e1 e2 e => by cases e1; cases e2; exact sub_int (tok e rfl))
  | Mult =>
    have e : multV a b st = some (v, st') := e
    cases ha with
    | int x t =>
      exact one e (fun x y t u e1 e2 e => by
        cases e1; cases e2
        split at e
        · rename_i hc
          refine mul_int (tok e rfl) ?_
          unfold IntMulOk
          mul_fits
        · cases e)
    | ref i a ha =>
      cases hb with
      | int k u =>
        simp only [multV] at e
        split at e
        · rename_i hi
          split at e
          · rename_i hk
            cases e
            obtain ⟨_, vs, hp, hv⟩ := r.listAt ha hi
            cases vs with
            | nil => have := hv.1; simp at this
            | cons y vs =>
              cases vs with
              | cons => have := hv.1; simp at this
              | nil =>
                obtain ⟨u, e1, e2⟩ := hv.2 0 _ rfl
                simp at e1; subst e1
                refine mul_list' hp hk.1 (by omega) ?_
                refine h _ _ _ (r.newList (.rep e2 _) (by simp [lim]; omega)) (Pre.push _ _) (.last r.len)
          · cases e
        · cases e
      | _ => exact nomatch e
    | _ => exact nomatch e
  | FloorDiv => exact one e (fun x y t u e1 e2 e => by
      cases e1; cases e2
      split at e
      · rename_i hc; exact floordiv_int hc.1 (tok e rfl) (.inl (PyProof.noPylong_small (by omega)))
      · cases e)
  | Mod => exact one e (fun x y t u e1 e2 e => by
      cases e1; cases e2
      split at e
      · rename_i hc; exact mod_int' hc (tok e rfl)
      · cases e)
  | Pow => exact one e (fun x y t u e1 e2 e => by
      cases e1; cases e2
      split at e
      · rename_i hc; exact pow_int_small hc.1 (by omega) hc.2.2 (tok e rfl)
      · cases e)
  | LShift => exact one e (fun x y t u e1 e2 e => by
      cases e1; cases e2
      split at e
      · rename_i hc; exact lshift_int_small hc.1 (by omega) hc.2.2 (tok e rfl)
      · cases e)
  | RShift => exact one e (fun x y t u e1 e2 e => by
      cases e1; cases e2
      split at e
      · rename_i hc; exact rshift_int hc (tok e rfl)
      · cases e)
  | BitAnd => exact one e (fun x y t u e1 e2 e => by cases e1; cases e2; exact and_int (tok e rfl))
  | BitOr => exact one e (fun x y t u e1 e2 e => by cases e1; cases e2; exact or_int (tok e rfl))
  | _ => exact nomatch e

theorem unV_ok {op : UnaryOp} {a v : V} {ca : Value} {Q : Value → Shared → Prop} (r : R P env ctx B fr st φ s) (ha : VR P.sc φ a ca)
    (e : unV op a = some v) (h : K3 P env ctx B fr st φ v Q) : wpAny (model prog P.w) A (unaryOp op ca) Q E s := by
  unfold unV at e
  split at e
  · cases ha; cases e; exact neg_int (h _ φ _ r.same (Pre.refl _) (.int _ _))
  · cases ha; cases e; exact invert_int (h _ φ _ r.same (Pre.refl _) (.int _ _))
  · cases e

theorem truthyV_ok {a : V} {ca : Value} {b : Bool} {Q : Bool → Shared → Prop} (r : R P env ctx B fr st φ s) (ha : VR P.sc φ a ca)
    (e : truthyV a = some b) (h : Q b s) : wpAny (model prog P.w) A (truthy ca) Q E s := by
  unfold truthyV at e
  split at e
  · cases ha; cases e; exact wpAny_truthy_bool h
  · cases ha; cases e; exact truthy_int h
  · cases e

theorem cmpV_ok {op : CmpOp} {a b : V} {ca cb : Value} {c : Bool} {Q : Value → Shared → Prop} (hA : A.units < 2000) (r : R P env ctx B fr st φ s) (ha : VR P.sc φ a ca) (hb : VR P.sc φ b cb)
    (e : cmpV op a b st = some c) (h : Q (.bool c) s) : wpAny (model prog P.w) A (compareOp op ca cb) Q E s := by
  have one : ∀ {g : Int → Int → Option Bool}, onInts g a b = some c → (∀ x y t u, ca = .int x t → cb = .int y u → g x y = some c → wpAny (model prog P.w) A (compareOp op ca cb) Q E s) → wpAny (model prog P.w) A (compareOp op ca cb) Q E s := by
    intro g e k
    obtain ⟨x, y, rfl, rfl, e⟩ := onInts_inv e
    cases ha; cases hb
    exact k _ _ _ _ rfl rfl e
  cases op with
  | Eq =>
    have e : eqV a b st = some c := e
    cases ha with
    | int x t => exact one e (fun x y t u e1 e2 e => by cases e1; cases e2; cases e; exact eq_int h)
    | ref i a ha =>
      cases hb with
      | ref j b hb =>
        simp only [eqV] at e
        split at e
        · rename_i hi hj
          split at e
          · rename_i hk
            cases e
            obtain ⟨_, vs, hp, hv⟩ := r.listAt ha hi
            obtain ⟨_, ws, hp2, hw⟩ := r.listAt hb hj
            obtain ⟨ns, e1, e2⟩ := ints_of hv hk
            obtain ⟨ms, e3, e4⟩ := ints_of hw rfl
            have : ms = [] := by cases ms with
              | nil => rfl
              | cons => simp at e3
            subst this
            refine eq_intsK hp.isList e2 hp2.isList e4 (by rw [cLine_is]; omega) ?_
            have q : (decide (ns = [])) = (ns.map V.int).isEmpty := by cases ns <;> simp
            rw [q, ← e1]; exact h
          · cases e
        · cases e
      | _ => exact nomatch e
    | _ => exact nomatch e
  | NotEq =>
    have e : neV a b = some c := e
    cases ha with
    | int x t => exact one e (fun x y t u e1 e2 e => by cases e1; cases e2; cases e; exact ne_int h)
    | bool x =>
      cases hb with
      | bool y => cases e; exact ne_bool h
      | _ => exact nomatch e
    | _ => exact nomatch e
  | Lt => exact one e (fun x y t u e1 e2 e => by cases e1; cases e2; cases e; exact lt_int h)
  | LtE => exact one e (fun x y t u e1 e2 e => by cases e1; cases e2; cases e; exact le_int h)
  | Gt => exact one e (fun x y t u e1 e2 e => by cases e1; cases e2; cases e; exact gt_int h)
  | GtE => exact one e (fun x y t u e1 e2 e => by cases e1; cases e2; cases e; exact ge_int h)
  | In =>
    have e : inV false a b st = some c := e
    cases ha with
    | int x t =>
      cases hb with
      | ref j b hb =>
        simp only [inV] at e
        split at e
        · rename_i hj
          split at e
          · rename_i hi
            cases e
            obtain ⟨_, vs, hp, hv⟩ := r.listAt hb hj
            obtain ⟨ns, e1, e2⟩ := ints_of hv hi
            refine in_list_ints hp.isList e2 ?_
            rw [e1, contains_ints] at h; exact h
          · cases e
        · cases e
      | _ => exact nomatch e
    | _ => exact nomatch e
  | NotIn =>
    have e : inV true a b st = some c := e
    cases ha with
    | int x t =>
      cases hb with
      | ref j b hb =>
        simp only [inV] at e
        split at e
        · rename_i hj
          split at e
          · rename_i hi
            cases e
            obtain ⟨_, vs, hp, hv⟩ := r.listAt hb hj
            obtain ⟨ns, e1, e2⟩ := ints_of hv hi
            refine notin_list_ints hp.isList e2 ?_
            rw [e1, contains_ints] at h; exact h
          · cases e
        · cases e
      | _ => exact nomatch e
    | _ => exact nomatch e
  | _ => exact nomatch e
end
end Mine

-- M4
/-! Expressions: the abstract evaluation is the model's (all but comprehensions and the text's own calls). -/
namespace Mine
open PySem PySem.W PyProof.Rows
set_option maxRecDepth 10000

noncomputable def Kept (h0 h : Heap) : Prop := ∀ b o, h0.get? b = some o → h.get? b = some o
noncomputable def KeeperOK (prog : Program) (P : Sta) (f : Value) : Prop :=
  ∀ h, Kept P.h0 h → ∃ k, (k = Keeper.frame ∨ k = Keeper.machine ∨ k = Keeper.boundFrame) ∧ Looks (model prog P.w) h (keeperOf f) k

noncomputable def biVals : List (Str × Value) := [("len", .builtin "len"), ("range", .type "range"), ("list", .type "list"), ("min", .builtin "min"), ("int", .type "int")]

structure FnOK (P : Sta) (f : Addr) (d : Def) : Prop where
  ok : ∃ o fd, P.h0.get? f = some o ∧ o.data = .func fd ∧ fd.body = .stmts d.body ∧ fd.scope = d.scope ∧ fd.closure = [] ∧ fd.globals = mainGlobals ∧ fd.builtins = builtinsNs ∧
    P.h0.CodeRec fd.code fd.qualname ∧ ∀ args : List Value, args.length = d.params.args.length → bindArgs fd ⟨args, []⟩ = pure ((d.params.args.map (·.arg)).zip args)

structure StaOK (prog : Program) (P : Sta) : Prop where
  nolimit : P.h0.NoLimit
  nsg : P.h0.Ns mainGlobals P.mg
  nsb : P.h0.Ns builtinsNs P.mb
  gints : ∀ x i, theGlb.gints.lookup x = some i → ∃ t, P.mg x = some (.int i t)
  gfns : ∀ x k, idx theGlb.fns x = some (k + 1) → P.mg x = some (.ref (P.fa (k + 1)))
  gcls : P.mg theGlb.cls = some (.ref P.C)
  gtups : ∀ x t, idx theGlb.tups x = some t → ∃ (a : Addr) (vs : List Value) (xs : List Int), P.mg x = some (.ref a) ∧ theTups[t]? = some xs ∧ P.h0.IsTuple a vs.toArray ∧ IntsAre vs xs
  bi : ∀ x v, (x, v) ∈ biVals → P.mg x = none ∧ P.mb x = some v
  script : (∃ vs : List Value, P.h0.IsList P.sc vs.toArray ∧ IntsAre vs P.scr) ∧ P.scr.length ≤ 63
  keepF : ∀ k, KeeperOK prog P (.ref (P.fa (k + 1)))
  keepC : KeeperOK prog P (.ref P.C)
  fns : ∀ k x d, fnNames[k]? = some x → theDef x = some d → FnOK P (P.fa k) d
  mkI : ∀ (A : Around) (s : Shared) (args : List Value) (Q : Value → Shared → Prop) (E : Value → Shared → Prop), Kept P.h0 s.heap →
    (∀ h', Kept s.heap h' → h'.get? s.heap.objs.size = some (dictOf [] 0) → h'.get? (s.heap.objs.size + 1) = some (instObj P.C s.heap.objs.size) →
      codeAny (model prog P.w) (A.under (.builtin "type.__call__" ⟨.ref P.C :: args, []⟩)) (.call (.ref (P.fa 0)) ⟨.ref (s.heap.objs.size + 1) :: args, []⟩)
        (InitBack (s.heap.objs.size + 1) fun r s' => match r with | .ok (.ret v) => Q v s' | .ok _ => False | .error e => E e s') { s with heap := h' }) →
    wpAny (model prog P.w) A (call (.ref P.C) args []) Q E s
  getA : ∀ (A : Around) (s : Shared) (x dx : Addr) (es : List DictEntry) (n nm : Nat) (name : Str) (v : Value) (Q : Value → Shared → Prop) (E : Value → Shared → Prop), Kept P.h0 s.heap → attrNames[nm]? = some name →
    s.heap.get? x = some (instObj P.C dx) → s.heap.get? dx = some (dictOf es n) → getL name es = some (some v) → handedIn v = true → Q v { s with toks := s.toks + 1 } → wpAny (model prog P.w) A (getAttr (.ref x) name true) Q E s
  setA : ∀ (A : Around) (s : Shared) (x dx L : Addr) (m : Str → Option Value) (es : List DictEntry) (n nm : Nat) (name : Str) (v : Value) (Q : Unit → Shared → Prop) (E : Value → Shared → Prop), Kept P.h0 s.heap → attrNames[nm]? = some name →
    s.heap.get? x = some (instObj P.C dx) → s.heap.get? dx = some (dictOf es n) → (getL name es).isSome = true → es.length ≤ 500 → s.heap.Ns L m → L ≠ dx →
    (∀ h' hsh, (∀ b o, b ≠ dx → b ≠ L → s.heap.get? b = some o → h'.get? b = some o) → h'.Ns L m → h'.get? dx = some (dictOf (putL name hsh (.str name (s.toks + 1)) v es) (putN name es n)) → Q () { s with heap := h', toks := s.toks + 2 }) →
    wpAny (model prog P.w) A (setAttr (.ref x) name v) Q E s

section
variable {prog : Program} {P : Sta} {env : Env} {ctx : Ctx} {B : Addr → Option Obj} {fr : List V} {st st1 st2 st3 : St} {φ : List Addr} {s : Shared} {A : Around} {E : Value → Shared → Prop} {k : Nat}

theorem R.kept (r : R P env ctx B fr st φ s) (e : EnvOK P env ctx B) : Kept P.h0 s.heap := fun b o h => r.base b o (e.hB b o h)

/-! names -/
theorem name_g (S : StaOK prog P) (e : EnvOK P env ctx B) (r : R P env ctx B fr st φ s) {x : Str} {pos : Pos} {v : Value} {Q : Value → Shared → Prop} (hx : ctx.glob x = true) (hv : P.mg x = some v) (h : Q v s) :
    wpAny (model prog P.w) A (eval (.Name x pos) env) Q E s := by
  simp only [Ctx.glob, Bool.and_eq_true, beq_iff_eq, Bool.not_eq_true'] at hx
  refine Calls.Name_function_global e.kind (by unfold Env.kindOf; rw [e.names]; exact hx.1.2) (Calls.loadGlobal_global (mg := P.mg) ?_ hv h) hx.2
  rw [e.glb]; exact S.nsg.keeps (r.kept e)
theorem name_b (S : StaOK prog P) (e : EnvOK P env ctx B) (r : R P env ctx B fr st φ s) {x : Str} {pos : Pos} {v : Value} {Q : Value → Shared → Prop} (hx : ctx.glob x = true) (hv : (x, v) ∈ biVals) (h : Q v s) :
    wpAny (model prog P.w) A (eval (.Name x pos) env) Q E s := by
  simp only [Ctx.glob, Bool.and_eq_true, beq_iff_eq, Bool.not_eq_true'] at hx
  obtain ⟨h1, h2⟩ := S.bi x v hv
  refine Calls.Name_function_global e.kind (by unfold Env.kindOf; rw [e.names]; exact hx.1.2) (Calls.loadGlobal_builtin (mg := P.mg) (mb := P.mb) ?_ h1 ?_ h2 h) hx.2
  · rw [e.glb]; exact S.nsg.keeps (r.kept e)
  · rw [e.blt]; exact S.nsb.keeps (r.kept e)
theorem getV_some {fr : List V} {i : Nat} {v : V} (h : getV fr i = some v) : fr[i]? = some v ∧ v ≠ .undef := by
  unfold getV at h
  split at h
  · cases h
  · rename_i u h1 h2; cases h; exact ⟨h2, fun e => h1 e⟩
  · cases h
theorem load_v (e : EnvOK P env ctx B) (r : R P env ctx B fr st φ s) {x : Str} {i : Nat} {v : V} {Q : Value → Shared → Prop} (hx : (x, i) ∈ ctx.vars) (hv : getV fr i = some v)
    (h : ∀ c, VR P.sc φ v c → Q c s) : wpAny (model prog P.w) A (loadName env x) Q E s := by
  obtain ⟨h1, h2⟩ := getV_some hv
  rcases e.known x i hx with hk | hk
  · obtain ⟨m, hm, q⟩ := r.loc
    obtain ⟨c, hc, vr⟩ := q x i v hx hk h1 h2
    exact wpAny_loadName_local e.kind hk hm hc (h c vr)
  · obtain ⟨c, ov, hl, hc, q⟩ := r.cel x i hx hk
    obtain ⟨cv, rfl, vr⟩ := q v h1 h2
    rcases hk with hk | hk
    · exact wpAny_loadName_cell e.kind hk hl hc (h cv vr)
    · exact wpAny_loadName_free e.kind hk hl hc (h cv vr) (e.good x i hx).2
theorem name_v (e : EnvOK P env ctx B) (r : R P env ctx B fr st φ s) {x : Str} {i : Nat} {v : V} {pos : Pos} {Q : Value → Shared → Prop} (hx : (x, i) ∈ ctx.vars) (hv : getV fr i = some v)
    (h : ∀ c, VR P.sc φ v c → Q c s) : wpAny (model prog P.w) A (eval (.Name x pos) env) Q E s :=
  wpAny_Name (load_v e r hx hv h) (e.good x i hx).1

/-! the sayings -/
noncomputable def GE (prog : Program) (P : Sta) (k : Nat) (e : PySem.Expr) (ctx : Ctx) (fr : List V) (st : St) (v : V) (st' : St) : Prop :=
  ∀ env B φ s A Q E, AOK k A → EnvOK P env ctx B → R P env ctx B fr st φ s → K3 P env ctx B fr st' φ v Q → wpAny (model prog P.w) A (eval e env) Q E s
noncomputable def GB (prog : Program) (P : Sta) (k : Nat) (e : PySem.Expr) (ctx : Ctx) (fr : List V) (st : St) (b : Bool) (st' : St) : Prop :=
  ∀ env B φ s A Q E, AOK k A → EnvOK P env ctx B → R P env ctx B fr st φ s → (∀ s' φ', R P env ctx B fr st' φ' s' → Pre φ φ' → Q b s') → wpAny (model prog P.w) A (isTrue e env (eval e env)) Q E s
noncomputable def GL (prog : Program) (P : Sta) (k : Nat) (es : List PySem.Expr) (ctx : Ctx) (fr : List V) (st : St) (vs : List V) (st' : St) : Prop :=
  ∀ env B φ s A Q E pos, AOK k A → EnvOK P env ctx B → R P env ctx B fr st φ s → (∀ s' φ' cs, R P env ctx B fr st' φ' s' → Pre φ φ' → VRs P.sc φ' vs cs → Q cs s') →
    wpAny (model prog P.w) A (spliced (backTo pos (starEach es env))) Q E s

theorem GE_int {i : Int} {kk : Nat} {pos : Pos} : GE prog P k (.Constant (.int i) kk pos) ctx fr st (.int i) st := fun _ _ φ _ _ _ _ _ _ r h =>
  wpAny_Constant_int (h _ φ _ r.same (Pre.refl _) (.int _ _))
theorem GE_bool {b : Bool} {kk : Nat} {pos : Pos} : GE prog P k (.Constant (.bool b) kk pos) ctx fr st (.bool b) st := fun _ _ φ _ _ _ _ _ _ r h =>
  wpAny_Constant_bool (h _ φ _ r (Pre.refl _) (.bool _))
theorem GE_none {kk : Nat} {pos : Pos} : GE prog P k (.Constant .none kk pos) ctx fr st .none st := fun _ _ φ _ _ _ _ _ _ r h =>
  wpAny_Constant_none (h _ φ _ r (Pre.refl _) .none)
theorem GE_var {x : Str} {i : Nat} {v : V} {pos : Pos} (hx : (x, i) ∈ ctx.vars) (hv : getV fr i = some v) : GE prog P k (.Name x pos) ctx fr st v st := fun _ _ φ _ _ _ _ _ e r h =>
  name_v e r hx hv fun c vr => h _ φ c r (Pre.refl _) vr
theorem GE_glob (S : StaOK prog P) {x : Str} {i : Int} {pos : Pos} (hx : ctx.glob x = true) (hi : theGlb.gints.lookup x = some i) : GE prog P k (.Name x pos) ctx fr st (.int i) st := fun _ _ φ _ _ _ _ _ e r h => by
  obtain ⟨t, ht⟩ := S.gints x i hi
  exact name_g S e r hx ht (h _ φ _ r (Pre.refl _) (.int _ _))
theorem GE_bin {l rr : PySem.Expr} {op : Operator} {pos : Pos} {a b v : V} (hl : GE prog P k l ctx fr st a st1) (hr : GE prog P k rr ctx fr st1 b st2) (e : binV op a b st2 = some (v, st3)) :
    GE prog P k (.BinOp l op rr pos) ctx fr st v st3 := fun env B φ s A Q E hA he r h =>
  wpAny_BinOp (hl env B φ s A _ E hA he r fun s1 φ1 ca r1 p1 va => hr env B φ1 s1 A _ E hA he r1 fun s2 φ2 cb r2 p2 vb => binV_ok r2 (va.mono p2) vb e fun s3 φ3 c r3 p3 v3 => h _ _ _ r3 (p1.trans (p2.trans p3)) v3)
theorem GE_un {x : PySem.Expr} {op : UnaryOp} {pos : Pos} {a v : V} (hl : GE prog P k x ctx fr st a st1) (e : unV op a = some v) : GE prog P k (.UnaryOp op x pos) ctx fr st v st1 := fun env B φ s A Q E hA he r h =>
  wpAny_UnaryOp (hl env B φ s A _ E hA he r fun s1 φ1 ca r1 p1 va => unV_ok r1 va e fun s3 φ3 c r3 p3 v3 => h _ _ _ r3 (p1.trans p3) v3)
theorem AOK.u {A : Around} (h : AOK k A) : A.units < 2000 := by have := h.units; omega
theorem GE_cmp {l rr : PySem.Expr} {op : CmpOp} {pos : Pos} {a b : V} {c : Bool} (hm : behindInMarks op rr = false) (hl : GE prog P k l ctx fr st a st1) (hr : GE prog P k rr ctx fr st1 b st2) (e : cmpV op a b st2 = some c) :
    GE prog P k (.Compare l [op] [rr] pos) ctx fr st (.bool c) st2 := fun env B φ s A Q E hA he r h =>
  wpAny_Compare1 (hl env B φ s A _ E hA he r fun s1 φ1 ca r1 p1 va => hr env B φ1 s1 A _ E hA he r1 fun s2 φ2 cb r2 p2 vb => cmpV_ok hA.u r2 (va.mono p2) vb e (h _ _ _ r2 (p1.trans p2) (.bool _))) hm
theorem GB_cmp {l rr : PySem.Expr} {op : CmpOp} {pos : Pos} {a b : V} {c : Bool} (hm : behindInMarks op rr = false) (hl : GE prog P k l ctx fr st a st1) (hr : GE prog P k rr ctx fr st1 b st2) (e : cmpV op a b st2 = some c) :
    GB prog P k (.Compare l [op] [rr] pos) ctx fr st c st2 := fun env B φ s A Q E hA he r h =>
  wpAny_isTrue_Compare1 (hl env B φ s A _ E hA he r fun s1 φ1 ca r1 p1 va => hr env B φ1 s1 A _ E hA he r1 fun s2 φ2 cb r2 p2 vb => cmpV_ok hA.u r2 (va.mono p2) vb e (wpAny_truthy_bool (h _ _ r2 (p1.trans p2)))) hm
theorem GB_val {x : PySem.Expr} {a : V} {b : Bool} (hx : ∀ (env : Env) (whole : Sem Value), isTrue x env whole = (do let v ← whole; standAt x.pos; holding [v] (truthy v))) (hl : GE prog P k x ctx fr st a st1) (e : truthyV a = some b) :
    GB prog P k x ctx fr st b st1 := fun env B φ s A Q E hA he r h =>
  wpAny_isTrue_value (hl env B φ s A _ E hA he r fun s1 φ1 ca r1 p1 va => truthyV_ok r1 va e (h _ _ r1 p1)) (hx env _)
theorem GB_not {x : PySem.Expr} {pos : Pos} {b : Bool} (hl : GB prog P k x ctx fr st b st1) : GB prog P k (.UnaryOp .Not x pos) ctx fr st (!b) st1 := fun env B φ s A Q E hA he r h =>
  wpAny_isTrue_Not (hl env B φ s A _ E hA he r fun s1 φ1 r1 p1 => h _ _ r1 p1)
theorem GE_ite {t a b : PySem.Expr} {pos : Pos} {c : Bool} {v : V} (ht : GB prog P k t ctx fr st c st1) (ha : c = true → GE prog P k a ctx fr st1 v st2) (hb : c = false → GE prog P k b ctx fr st1 v st2) :
    GE prog P k (.IfExp t a b pos) ctx fr st v st2 := fun env B φ s A Q E hA he r h =>
  wpAny_IfExp (ht env B φ s A _ E hA he r fun s1 φ1 r1 p1 => by
    cases c with
    | true => exact ha rfl env B φ1 s1 A _ E hA he r1 fun s2 φ2 cv r2 p2 vv => h _ _ _ r2 (p1.trans p2) vv
    | false => exact hb rfl env B φ1 s1 A _ E hA he r1 fun s2 φ2 cv r2 p2 vv => h _ _ _ r2 (p1.trans p2) vv)
theorem GE_and {x y : PySem.Expr} {pos : Pos} {a v : V} {c : Bool} (hx : GE prog P k x ctx fr st a st1) (e : truthyV a = some c) (h1 : c = true → GE prog P k y ctx fr st1 v st2) (h2 : c = false → v = a ∧ st2 = st1) :
    GE prog P k (.BoolOp .And [x, y] pos) ctx fr st v st2 := fun env B φ s A Q E hA he r h =>
  wpAny_And2 (hx env B φ s A _ E hA he r fun s1 φ1 ca r1 p1 va => truthyV_ok r1 va e (by
    cases c with
    | true => exact h1 rfl env B φ1 s1 A _ E hA he r1 fun s2 φ2 cv r2 p2 vv => h _ _ _ r2 (p1.trans p2) vv
    | false => obtain ⟨rfl, rfl⟩ := h2 rfl; exact h _ _ _ r1 p1 va))
theorem GE_or {x y : PySem.Expr} {pos : Pos} {a v : V} {c : Bool} (hx : GE prog P k x ctx fr st a st1) (e : truthyV a = some c) (h1 : c = false → GE prog P k y ctx fr st1 v st2) (h2 : c = true → v = a ∧ st2 = st1) :
    GE prog P k (.BoolOp .Or [x, y] pos) ctx fr st v st2 := fun env B φ s A Q E hA he r h =>
  wpAny_Or2 (hx env B φ s A _ E hA he r fun s1 φ1 ca r1 p1 va => truthyV_ok r1 va e (by
    cases c with
    | false => exact h1 rfl env B φ1 s1 A _ E hA he r1 fun s2 φ2 cv r2 p2 vv => h _ _ _ r2 (p1.trans p2) vv
    | true => obtain ⟨rfl, rfl⟩ := h2 rfl; exact h _ _ _ r1 p1 va))

/-! lists of expressions -/
theorem starEach_cons {e : PySem.Expr} (hs : noStar e = true) (rest : List PySem.Expr) (env : Env) : starEach (e :: rest) env = (false, eval e env) :: starEach rest env := by
  cases e <;> first | rfl | (simp [noStar] at hs)
theorem GL_nil : GL prog P k [] ctx fr st [] st := fun _ _ φ _ _ _ _ _ _ _ r h => Calls.spliced_nil (h _ φ _ r (Pre.refl _) .nil)
theorem GL_cons {e : PySem.Expr} {es : List PySem.Expr} {v : V} {vs : List V} (hs : noStar e = true) (h1 : GE prog P k e ctx fr st v st1) (h2 : GL prog P k es ctx fr st1 vs st2) : GL prog P k (e :: es) ctx fr st (v :: vs) st2 :=
  fun env B φ s A Q E pos hA he r h => by
    rw [starEach_cons hs]
    have key : wpAny (model prog P.w) A (spliced ((false, eval e env) :: backTo pos (starEach es env))) Q E s :=
      Calls.spliced_cons (h1 env B φ s A _ E hA he r fun s1 φ1 ca r1 p1 va => h2 env B φ1 s1 A _ E pos hA he r1 fun s2 φ2 cs r2 p2 vc => h _ _ _ r2 (p1.trans p2) (.cons (va.mono p2) vc))
    exact key
end
end Mine

-- M5
/-! Displays, built-in calls, methods, attributes, subscripts. -/
namespace Mine
open PySem PySem.W PyProof.Rows
set_option maxRecDepth 10000
section
variable {prog : Program} {P : Sta} {env : Env} {ctx : Ctx} {B : Addr → Option Obj} {fr : List V} {st st1 st2 st3 : St} {φ : List Addr} {s : Shared} {A : Around} {E : Value → Shared → Prop} {k : Nat}

theorem lim_line {n : Nat} (h : n ≤ lim) : n ≤ sizeLine := Nat.le_trans h (Nat.le_trans (Nat.le_add_right _ _) sizeLine_big)
theorem GE_lst {es : List PySem.Expr} {pos : Pos} {vs : List V} (hl : GL prog P k es ctx fr st vs st1) (hn : vs.length ≤ lim) : GE prog P k (.List es pos) ctx fr st (.ref st1.length) (st1 ++ [.lst vs]) := fun env B φ s A Q E hA he r h =>
  List_ (hl env B φ s A _ E pos hA he r fun s1 φ1 cs r1 p1 vc => wpAny_newObj_type (h _ _ _ (r1.newList vc hn) (p1.trans (Pre.push _ _)) (.last r1.len)) (by show cs.toArray.size ≤ sizeLine; rw [List.size_toArray, vc.1]; exact lim_line hn))
theorem GE_tup {es : List PySem.Expr} {kk : Nat} {pos : Pos} {vs : List V} (hl : GL prog P k es ctx fr st vs st1) (hn : vs.length ≤ lim) : GE prog P k (.Tuple es kk pos) ctx fr st (.ref st1.length) (st1 ++ [.tup vs]) := fun env B φ s A Q E hA he r h =>
  Tuple_ (hl env B φ s A _ E pos hA he r fun s1 φ1 cs r1 p1 vc => wpAny_newObj_type (h _ _ _
    (r1.alloc (fun b ob e => Heap.get?_push_of_some _ e) rfl (Nat.le_refl _) ⟨hn, cs, 0, Heap.get?_push_size _ rfl, vc.mono (Pre.push _ _)⟩) (p1.trans (Pre.push _ _)) (.last r1.len)) (by show cs.toArray.size ≤ sizeLine; rw [List.size_toArray, vc.1]; exact lim_line hn))

/-! calls of names -/
theorem noStar_plain : ∀ {es : List PySem.Expr} {pos : Pos} {env : Env}, es.all noStar = true → (backTo pos (starEach es env)).any (·.1) = false
  | [], _, _, _ => rfl
  | e :: r, pos, env, h => by
    simp only [List.all_cons, Bool.and_eq_true] at h
    rw [starEach_cons h.1]
    have := noStar_plain (es := r) (pos := pos) (env := env) h.2
    show (false || (backTo pos (starEach r env)).any (·.1)) = false
    rw [this]; rfl
theorem keeperB {id : String} : KeeperOK prog P (.builtin id) := fun _ _ => ⟨.machine, .inr (.inl rfl), Looks.of_pure rfl⟩
theorem keeperT {id : String} : KeeperOK prog P (.type id) := fun _ _ => ⟨.machine, .inr (.inl rfl), Looks.of_pure rfl⟩
theorem callW {f : Value} {first : List Value} {pos : Pos} {e : PySem.Expr} {es : List PySem.Expr} {Q : Value → Shared → Prop} (hf : KeeperOK prog P f) (hs : (e :: es).all noStar = true)
    (h : wpAny (model prog P.w) A (spliced (backTo pos (starEach (e :: es) env))) (fun vs s₁ => Kept P.h0 s₁.heap ∧ wpAny (model prog P.w) A (call f (first ++ vs) []) Q E s₁) E s) :
    wpAny (model prog P.w) A (callWith pos f first (backTo pos (starEach (e :: es) env)) []) Q E s := by
  have hs1 : noStar e = true := by simp only [List.all_cons, Bool.and_eq_true] at hs; exact hs.1
  refine callWith_of (P := Kept P.h0) (by rw [noStar_plain hs]; rfl) hf ?_
  rw [starEach_cons hs1] at h ⊢
  exact Calls.evalArgs_plain h
theorem GE_callN {f : Value} {x : Str} {px pos : Pos} {e : PySem.Expr} {es : List PySem.Expr} {vs : List V} {v : V} (hf : KeeperOK prog P f) (hs : (e :: es).all noStar = true)
    (hx : ∀ env B φ s A Q E, EnvOK P env ctx B → R P env ctx B fr st φ s → Q f s → wpAny (model prog P.w) A (eval (.Name x px) env) Q E s)
    (hl : GL prog P k (e :: es) ctx fr st vs st1)
    (hc : ∀ env B φ s A Q E cs, AOK k A → EnvOK P env ctx B → R P env ctx B fr st1 φ s → VRs P.sc φ vs cs → K3 P env ctx B fr st2 φ v Q → wpAny (model prog P.w) A (call f cs []) Q E s) :
    GE prog P k (.Call (.Name x px) (e :: es) [] pos) ctx fr st v st2 := fun env B φ s A Q E hA he r h => by
  refine wpAny_Call_NameR (hx env B φ s A _ E he r (callW hf hs (hl env B φ s A _ E pos hA he r fun s1 φ1 cs r1 p1 vc => ⟨r1.kept he, ?_⟩)))
  exact hc env B φ1 s1 A Q E cs hA he r1 vc fun s2 φ2 c r2 p2 v2 => h _ _ _ r2 (p1.trans p2) v2

theorem one_of {vs : List Value} {v : V} {φ : List Addr} {sc : Addr} (h : VRs sc φ [v] vs) : ∃ c, vs = [c] ∧ VR sc φ v c := by
  cases vs with
  | nil => have := h.1; simp at this
  | cons c r =>
    cases r with
    | cons => have := h.1; simp at this
    | nil =>
      obtain ⟨u, a, b⟩ := h.2 0 v rfl
      simp at a; subst a; exact ⟨_, rfl, b⟩
theorem VRs.uncons {vs : List Value} {v : V} {xs : List V} {φ : List Addr} {sc : Addr} (h : VRs sc φ (v :: xs) vs) : ∃ c r, vs = c :: r ∧ VR sc φ v c ∧ VRs sc φ xs r := by
  cases vs with
  | nil => have := h.1; simp at this
  | cons c r =>
    obtain ⟨u, a, b⟩ := h.2 0 v rfl
    simp at a; subst a
    exact ⟨_, r, rfl, b, by simpa using h.1, fun i y hy => by simpa using h.2 (i + 1) y (by simpa using hy)⟩

theorem bigInt {n : Nat} (h : n ≤ lim) : ((n : Nat) : Int) < 2 ^ 63 := by have : lim = 1000000 := rfl; omega

theorem GE_len (S : StaOK prog P) {x : Str} {px pos : Pos} {e : PySem.Expr} {a : V} {n : Nat} (hx : ctx.glob x = true) (hn : x = "len") (hs : noStar e = true) (ha : GE prog P k e ctx fr st a st1) (hl : lenV st1 a = some n) :
    GE prog P k (.Call (.Name x px) [e] [] pos) ctx fr st (.int n) st1 := by
  refine GE_callN (vs := [a]) (keeperB (id := "len")) (by simp [hs]) (fun env B φ s A Q E he r h => name_b S he r hx (by rw [hn]; simp [biVals]) h) (GL_cons hs ha GL_nil) ?_
  intro env B φ s A Q E cs hA he r vc h
  obtain ⟨c, rfl, vr⟩ := one_of vc
  unfold lenV at hl
  split at hl
  · cases vr with | ref kk ad hk =>
    split at hl
    · rename_i xs0 hxx
      cases hl
      obtain ⟨hlen, vs, hp, hv⟩ := r.listAt hk hxx
      have hsz : vs.toArray.size = xs0.length := by rw [List.size_toArray, hv.1]
      refine len_list hp.isList (by rw [hsz]; exact bigInt hlen) ?_
      rw [hsz]
      exact h _ φ _ r.same (Pre.refl _) (.int _ _)
    · cases hl
  · cases hl

theorem GE_range1 (S : StaOK prog P) {x : Str} {px pos : Pos} {e : PySem.Expr} {b : Int} (hx : ctx.glob x = true) (hn : x = "range") (hs : noStar e = true) (ha : GE prog P k e ctx fr st (.int b) st1) (hb : smallI b = true) :
    GE prog P k (.Call (.Name x px) [e] [] pos) ctx fr st (.ref st1.length) (st1 ++ [.rng 0 b 1]) := by
  refine GE_callN (vs := [.int b]) (keeperT (id := "range")) (by simp [hs]) (fun env B φ s A Q E he r h => name_b S he r hx (by rw [hn]; simp [biVals]) h) (GL_cons hs ha GL_nil) ?_
  intro env B φ s A Q E cs hA he r vc h
  obtain ⟨c, rfl, vr⟩ := one_of vc
  cases vr
  refine call_range_1 (h _ _ _ (r.alloc (fun b ob e => Heap.get?_push_of_some _ e) rfl (Nat.le_refl _) ⟨⟨_, _, _, Heap.get?_push_size _ rfl⟩, by decide, hb, by decide, by decide⟩) (Pre.push _ _) (.last r.len))

theorem GE_range3 (S : StaOK prog P) {x : Str} {px pos : Pos} {e1 e2 e3 : PySem.Expr} {a b c : Int} (hx : ctx.glob x = true) (hn : x = "range") (hs : ([e1, e2, e3].all noStar) = true)
    (ha : GE prog P k e1 ctx fr st (.int a) st1) (hb : GE prog P k e2 ctx fr st1 (.int b) st2) (hc : GE prog P k e3 ctx fr st2 (.int c) st3) (sa : smallI a = true) (sb : smallI b = true) (sc : smallI c = true) (hz : c ≠ 0) :
    GE prog P k (.Call (.Name x px) [e1, e2, e3] [] pos) ctx fr st (.ref st3.length) (st3 ++ [.rng a b c]) := by
  have hs' := hs
  simp only [List.all_cons, Bool.and_eq_true] at hs
  refine GE_callN (vs := [.int a, .int b, .int c]) (keeperT (id := "range")) hs' (fun env B φ s A Q E he r h => name_b S he r hx (by rw [hn]; simp [biVals]) h) (GL_cons hs.1 ha (GL_cons hs.2.1 hb (GL_cons hs.2.2.1 hc GL_nil))) ?_
  intro env B φ s A Q E cs hA he r vc h
  obtain ⟨c1, r1, rfl, v1, vc⟩ := vc.uncons
  obtain ⟨c2, r2, rfl, v2, vc⟩ := vc.uncons
  obtain ⟨c3, rfl, v3⟩ := one_of vc
  cases v1; cases v2; cases v3
  refine call_range_3 hz (h _ _ _ (r.alloc (fun b ob e => Heap.get?_push_of_some _ e) rfl (Nat.le_refl _) ⟨⟨_, _, _, Heap.get?_push_size _ rfl⟩, sa, sb, sc, hz⟩) (Pre.push _ _) (.last r.len)) (.inl (PyProof.noPylong_small ?_))
  simp only [smallI, decide_eq_true_eq] at sc
  omega

theorem range_facts {a b c : Int} (sa : smallI a = true) (sb : smallI b = true) (sc : smallI c = true) (hz : c ≠ 0) :
    Builtin.Range.small a b c = true ∧ Builtin.Range.rangeSize a b c = (rngLen a b c : Int) ∧ rngLen a b c ≤ 200000 := by
  simp only [smallI, decide_eq_true_eq] at sa sb sc
  have h : 0 ≤ Builtin.Range.rangeSize a b c ∧ Builtin.Range.rangeSize a b c ≤ 200000 := by
    unfold Builtin.Range.rangeSize
    split
    · split
      · have h1 : 0 ≤ (b - a - 1) / c := Int.ediv_nonneg (by omega) (by omega)
        have h2 : (b - a - 1) / c ≤ b - a - 1 := Int.ediv_le_self _ (by omega)
        omega
      · omega
    · split
      · have h1 : 0 ≤ (a - b - 1) / -c := Int.ediv_nonneg (by omega) (by omega)
        have h2 : (a - b - 1) / -c ≤ a - b - 1 := Int.ediv_le_self _ (by omega)
        omega
      · omega
  refine ⟨?_, ?_, ?_⟩
  · have fit : ∀ x : Int, x.natAbs < 1000000 → Builtin.Range.rangeFitsLong x = true := fun x hx => by
      unfold Builtin.Range.rangeFitsLong
      simp only [Bool.and_eq_true, decide_eq_true_eq]
      omega
    unfold Builtin.Range.small
    rw [fit a (by omega), fit b (by omega), fit c (by omega), fit _ (by omega : (Builtin.Range.rangeSize a b c).natAbs < 1000000), fit (b + (c - 1)) (by omega), fit (b + (c + 1)) (by omega)]
    simp
  · unfold rngLen; omega
  · unfold rngLen; omega

theorem intsUp_get : ∀ (n : Nat) (a c : Int) (i : Nat), (intsUp a c n)[i]? = if i < n then some (.int (a + i * c)) else none
  | 0, _, _, _ => by simp [intsUp]
  | n + 1, a, c, 0 => by simp [intsUp]
  | n + 1, a, c, i + 1 => by
    simp only [intsUp, List.getElem?_cons_succ, intsUp_get n]
    have e : a + c + (i : Int) * c = a + ((i + 1 : Nat) : Int) * c := by
      rw [Int.natCast_succ, Int.add_mul]; omega
    by_cases h : i < n
    · rw [if_pos h, if_pos (by omega), e]
    · rw [if_neg h, if_neg (by omega)]
theorem intsUp_len (n : Nat) : ∀ (a c : Int), (intsUp a c n).length = n := by
  induction n with
  | zero => intro a c; rfl
  | succ n ih => intro a c; simp [intsUp, ih]

theorem GE_listOf (S : StaOK prog P) {x : Str} {px pos : Pos} {e : PySem.Expr} {kk : Nat} {a b c : Int} (hx : ctx.glob x = true) (hn : x = "list") (hs : noStar e = true) (ha : GE prog P k e ctx fr st (.ref kk) st1) (hk : st1[kk]? = some (.rng a b c)) :
    GE prog P k (.Call (.Name x px) [e] [] pos) ctx fr st (.ref st1.length) (st1 ++ [.lst (intsUp a c (rngLen a b c))]) := by
  refine GE_callN (vs := [.ref kk]) (keeperT (id := "list")) (by simp [hs]) (fun env B φ s A Q E he r h => name_b S he r hx (by rw [hn]; simp [biVals]) h) (GL_cons hs ha GL_nil) ?_
  intro env B φ s A Q E cs hA he r vc h
  obtain ⟨c1, rfl, vr⟩ := one_of vc
  cases vr with | ref _ ad hkk =>
  obtain ⟨⟨t, u, v, hr⟩, sa, sb, scc, hz⟩ := r.obj hk hkk
  obtain ⟨f1, f2, f3⟩ := range_facts sa sb scc hz
  refine call_list_range hA.handled hr f1 f2 (by omega) fun h' tk acc' c' hkeep hS hacc => ?_
  have key : VRs P.sc (φ ++ [s.heap.objs.size]) (intsUp a c (rngLen a b c)) acc'.toList := by
    refine ⟨by rw [intsUp_len]; simpa using hacc.1, fun i y hy => ?_⟩
    rw [intsUp_get] at hy
    split at hy
    · rename_i hi
      cases hy
      have hlt : i < acc'.size := by rw [hacc.1]; exact hi
      obtain ⟨t, ht⟩ := hacc.2 i acc'[i] (Array.getElem?_eq_getElem hlt)
      exact ⟨acc'[i], by simp [hlt], by rw [ht]; exact .int _ _⟩
    · cases hy
  refine h _ _ _ (r.alloc (o := .lst _) hkeep rfl (Nat.le_refl _) ⟨by rw [intsUp_len]; show _ ≤ 1000000; omega, acc'.toList, ⟨c', by simpa using hS⟩, key⟩) (Pre.push _ _) (.last r.len)

theorem minL_spec : ∀ {ns : List Int} {i : Int}, minL (ns.map V.int) = some i → i ∈ ns ∧ ∀ a ∈ ns, i ≤ a
  | [], _, h => by simp [minL] at h
  | [a], i, h => by simp [minL] at h; subst h; simp
  | a :: b :: r, i, h => by
    rw [List.map_cons, List.map_cons, minL] at h
    · split at h
      · rename_i j hj
        cases h
        obtain ⟨h1, h2⟩ := minL_spec (ns := b :: r) (i := j) (by rw [List.map_cons]; exact hj)
        split
        · refine ⟨List.mem_cons_of_mem _ h1, fun x hx => ?_⟩
          rcases List.mem_cons.mp hx with rfl | hx
          · omega
          · exact h2 x hx
        · refine ⟨List.mem_cons_self, fun x hx => ?_⟩
          rcases List.mem_cons.mp hx with rfl | hx
          · omega
          · have := h2 x hx; omega
      · cases h
    · intro e; cases e
theorem minL_ints : ∀ {xs : List V} {i : Int}, minL xs = some i → allInts xs = true
  | [], _, h => by simp [minL] at h
  | [x], i, h => by cases x <;> simp [minL] at h; rfl
  | x :: y :: r, i, h => by
    cases x <;> simp only [minL] at h <;> try (cases h)
    split at h
    · rename_i j hj
      have := minL_ints (xs := y :: r) hj
      simpa [allInts] using this
    · cases h

theorem GE_min (S : StaOK prog P) {x : Str} {px pos : Pos} {e : PySem.Expr} {kk : Nat} {xs : List V} {i : Int} (hx : ctx.glob x = true) (hn : x = "min") (hs : noStar e = true) (ha : GE prog P k e ctx fr st (.ref kk) st1) (hk : st1[kk]? = some (.lst xs)) (hi : minL xs = some i) :
    GE prog P k (.Call (.Name x px) [e] [] pos) ctx fr st (.int i) st1 := by
  refine GE_callN (vs := [.ref kk]) (keeperB (id := "min")) (by simp [hs]) (fun env B φ s A Q E he r h => name_b S he r hx (by rw [hn]; simp [biVals]) h) (GL_cons hs ha GL_nil) ?_
  intro env B φ s A Q E cs hA he r vc h
  obtain ⟨c1, rfl, vr⟩ := one_of vc
  cases vr with | ref _ ad hkk =>
  obtain ⟨hlen, vs, hp, hv⟩ := r.listAt hkk hk
  obtain ⟨ns, rfl, hI⟩ := ints_of hv (minL_ints hi)
  obtain ⟨q1, q2⟩ := minL_spec hi
  obtain ⟨ys, e1⟩ := hI.allInts.items
  have hns : ns = ys.toList.map (·.1) := by
    rw [← hI.numsOf, ← nums_intItems, ← e1]
  have hne : 0 < ns.length := List.length_pos_of_mem q1
  have hsz : 0 < ys.size := by
    have h3 := hne; rw [hns, List.length_map, Array.length_toList] at h3; exact h3
  have hl := hp.isList
  rw [e1] at hl
  refine min_intList hA.handled hl hsz fun v h' tk hv hkeep => ?_
  obtain ⟨t, rfl⟩ := intItems_at hv
  obtain ⟨h1, h2⟩ := argBest_lt (numAt ys) (ys.size - 1)
  have hm : numAt ys (argBest (fun i j => decide (numAt ys i < numAt ys j)) (ys.size - 1)) = i := by
    refine Int.le_antisymm ?_ ?_
    · rw [hns] at q1
      obtain ⟨j, hj, hj2⟩ := mem_getD q1
      rw [List.length_map, Array.length_toList] at hj
      have := h2 j (by omega)
      rw [numAt_eq] at this ⊢
      rw [numAt_eq] at this
      rw [← hj2]; exact this
    · refine q2 _ ?_
      rw [hns, numAt_eq]; exact getD_mem (by rw [List.length_map, Array.length_toList]; omega)
  rw [hm]
  exact h _ φ _ (r.grow hkeep) (Pre.refl _) (.int _ _)

theorem GE_intOf (S : StaOK prog P) {x : Str} {px pos : Pos} {e : PySem.Expr} {b : Bool} (hx : ctx.glob x = true) (hn : x = "int") (hs : noStar e = true) (ha : GE prog P k e ctx fr st (.bool b) st1) :
    GE prog P k (.Call (.Name x px) [e] [] pos) ctx fr st (.int (if b then 1 else 0)) st1 := by
  refine GE_callN (vs := [.bool b]) (keeperT (id := "int")) (by simp [hs]) (fun env B φ s A Q E he r h => name_b S he r hx (by rw [hn]; simp [biVals]) h) (GL_cons hs ha GL_nil) ?_
  intro env B φ s A Q E cs hA he r vc h
  obtain ⟨c1, rfl, vr⟩ := one_of vc
  cases vr
  exact call_int_bool (h _ φ _ r.same (Pre.refl _) (.int _ _))
end
end Mine

-- M6
/-! Methods, attributes, subscripts. -/
namespace Mine
open PySem PySem.W PyProof.Rows
set_option maxRecDepth 10000
section
variable {prog : Program} {P : Sta} {env : Env} {ctx : Ctx} {B : Addr → Option Obj} {fr : List V} {st st1 st2 st3 : St} {φ : List Addr} {s : Shared} {A : Around} {E : Value → Shared → Prop} {k : Nat}

theorem base_ok {o : PySem.Expr} (h : okBase o = true) (name : Str) (env : Env) (t : Sem Value) : attributeBase o name env t = t := by
  cases o <;> first | rfl | (simp [okBase] at h)

theorem one_plain {a : PySem.Expr} (hs : noStar a = true) (pos : Pos) (env : Env) : backTo pos (starEach [a] env) = [(false, eval a env)] := by
  rw [starEach_cons hs]; rfl
theorem lenV_lst {st : St} {j : Nat} (h : (lenV st (.ref j)).isSome = true) : ∃ xs, st[j]? = some (.lst xs) := by
  cases hx : st[j]? with
  | none => simp [lenV, hx] at h
  | some o => cases o with
    | lst xs => exact ⟨xs, rfl⟩
    | _ => simp [lenV, hx] at h

theorem meth1 {o a : PySem.Expr} {name : Str} {id : String} {apos pos : Pos} {j : Nat} {x : V} (hb : okBase o = true) (hs : noStar a = true) (hline : (apos.endLine == pos.line) = true)
    (slot : Slot "list" name id) (hty : typeOf (.builtin id) = pure (.type "method_descriptor"))
    (ho : GE prog P k o ctx fr st (.ref j) st1) (hj : (lenV st1 (.ref j)).isSome = true) (ha : GE prog P k a ctx fr st1 x st2)
    (hc : ∀ env B φ s A Q E ad c, AOK k A → EnvOK P env ctx B → R P env ctx B fr st2 φ s → φ[j]? = some ad → VR P.sc φ x c → K3 P env ctx B fr st3 φ .none Q → wpAny (model prog P.w) A (call (.builtin id) [.ref ad, c] []) Q E s) :
    GE prog P k (.Call (.Attribute o name apos) [a] [] pos) ctx fr st .none st3 := fun env B φ s A Q E hA he r h => by
  refine wpAny_Call_method (base_ok hb _ _ _) ?_ hline PySem.F.plainAttrs_list slot hty (ho env B φ s A _ E hA he r fun s1 φ1 co r1 p1 vo => ?_)
  · rw [one_plain hs]; rfl
  · cases vo with | ref _ ad hk =>
    obtain ⟨xs, hxs⟩ := lenV_lst hj
    obtain ⟨_, vs, hp, _⟩ := r1.listAt hk hxs
    refine ⟨hp.isList.typeIs, fun b e => by cases e; obtain ⟨n, hn⟩ := hp; exact ⟨_, hn, rfl⟩, ?_⟩
    refine callW keeperB (by simp [hs]) ?_
    rw [one_plain hs]
    refine Calls.spliced_cons (ha env B φ1 s1 A _ E hA he r1 fun s2 φ2 c r2 p2 v2 => Calls.spliced_nil ⟨r2.kept he, ?_⟩)
    exact hc env B φ2 s2 A Q E ad c hA he r2 (p2 _ _ hk) v2 fun s3 φ3 c3 r3 p3 v3 => h _ _ _ r3 (p1.trans (p2.trans p3)) v3

theorem GE_append {o a : PySem.Expr} {apos pos : Pos} {j : Nat} {x : V} {name : Str} (hn : name = "append") (hb : okBase o = true) (hs : noStar a = true) (hline : (apos.endLine == pos.line) = true)
    (ho : GE prog P k o ctx fr st (.ref j) st1) (hj : (lenV st1 (.ref j)).isSome = true) (ha : GE prog P k a ctx fr st1 x st2) (hp : pushV st2 j x = some st3) :
    GE prog P k (.Call (.Attribute o name apos) [a] [] pos) ctx fr st .none st3 := by
  subst hn
  refine meth1 hb hs hline slot_list_append type_list_append ho hj ha ?_
  intro env B φ s A Q E ad c hA he r hk vc h
  unfold pushV at hp
  split at hp
  · rename_i xs hx
    split at hp
    · rename_i hl
      cases hp
      obtain ⟨_, vs, hpl, hv⟩ := r.listAt hk hx
      refine wpAny_list_append_plain hpl (fun h' hp' hs' => ?_) (by rw [List.size_toArray, hv.1]; exact lim_line (by omega))
      refine h _ φ _ (r.update he hk (fun b ob hne e => (hs'.2 b hne).trans e) ⟨by simp; omega, vs ++ [c], by simpa using hp', hv.snoc vc⟩) (Pre.refl _) .none
    · cases hp
  · cases hp

theorem GE_extend {o a : PySem.Expr} {apos pos : Pos} {j i : Nat} {xs ys : List V} {name : Str} (hn : name = "extend") (hb : okBase o = true) (hs : noStar a = true) (hline : (apos.endLine == pos.line) = true)
    (ho : GE prog P k o ctx fr st (.ref j) st1) (hj : (lenV st1 (.ref j)).isSome = true) (ha : GE prog P k a ctx fr st1 (.ref i) st2) (hx : st2[j]? = some (.lst xs)) (hy : st2[i]? = some (.lst ys)) (hlen : xs.length + ys.length < lim) :
    GE prog P k (.Call (.Attribute o name apos) [a] [] pos) ctx fr st .none (st2.set j (.lst (xs ++ ys))) := by
  subst hn
  refine meth1 hb hs hline PySem.F.slot_list_extend PySem.F.type_list_extend ho hj ha ?_
  intro env B φ s A Q E ad c hA he r hk vc h
  cases vc with | ref _ bd hk2 =>
  obtain ⟨_, vs, ⟨n, hp⟩, hv⟩ := r.listAt hk hx
  obtain ⟨_, ws, ⟨n2, hp2⟩, hw⟩ := r.listAt hk2 hy
  have hz : vs.toArray.size + ws.toArray.size ≤ sizeLine := by
    rw [List.size_toArray, List.size_toArray, hv.1, hw.1]; exact lim_line (by omega)
  refine call_meets PySem.F.slot_list_extend ⟨_, hp, rfl⟩ PySem.F.entry_list_extend (PySem.F.args_list_extend_2 _ _) (PySem.AutoSeq1.list_extend_list_list_0 ad vs.toArray n bd ws.toArray n2 (extend_door hz) (by omega) (by omega)) ⟨hp, hp2, ?_⟩
  refine h _ φ _ (r.update (k := j) (o := .lst (xs ++ ys)) he hk (fun b ob hne e => by rw [(Heap.SameBut.update ..).2 b hne]; exact e) ⟨by simp; omega, vs ++ ws, ?_, hv.append hw⟩) (Pre.refl _) .none
  have e : (vs ++ ws).toArray = vs.toArray ++ ws.toArray := by simp
  rw [e]
  exact ⟨_, by rw [Heap.get?_update_self _ hp (by rw [mapSeq_app]; rfl), mapSeq_app]⟩

/-! attributes -/
theorem attr_inj : ∀ {i j : Nat} {x : Str}, attrNames[i]? = some x → attrNames[j]? = some x → i = j := by
  intro i j x h1 h2
  have e1 : attrNames.Nodup := by decide +kernel
  have l1 := (List.getElem?_eq_some_iff.mp h1).1
  have l2 := (List.getElem?_eq_some_iff.mp h2).1
  exact (List.getElem?_inj l1 e1).mp (h1.trans h2.symm)
theorem isStr_iff {x y : Str} {t : Tok} : (Value.str x t).isStr y = true ↔ x = y := by
  show (x == y) = true ↔ x = y
  simp
theorem FR.get {sc : Addr} {φ : List Addr} {nm : Nat} {x : Str} (hx : attrNames[nm]? = some x) : ∀ {fs : List (Nat × V)} {es : List DictEntry} {v : V}, FR sc φ fs es → fs.lookup nm = some v → ∃ c, getL x es = some (some c) ∧ VR sc φ v c
  | _, _, v, .nil, h => by simp at h
  | _, _, v, .cons (nm := n2) (x := y) (t := t) (c := c) (es := es) hy vr r, h => by
    by_cases e : nm = n2
    · subst e
      rw [hx] at hy; cases hy
      simp at h; subst h
      refine ⟨c, ?_, vr⟩
      unfold getL
      rw [List.find?_cons_of_pos (by exact isStr_iff.mpr rfl)]
    · rw [List.lookup_cons, show (nm == n2) = false by simp [e]] at h
      obtain ⟨c', h1, h2⟩ := FR.get hx r h
      refine ⟨c', ?_, h2⟩
      have hne : ¬ (Value.str y t).isStr x = true := fun q => e (attr_inj hx ((isStr_iff.mp q) ▸ hy))
      have hs : (Value.str y t).isStr x = false := by simpa using hne
      unfold getL at h1 ⊢
      rw [List.find?_cons_of_neg (by rw [hs]; simp)]
      split at h1
      · exact h1
      · split at h1 <;> cases h1
theorem FR.looks {sc : Addr} {φ : List Addr} {x : Str} : ∀ {fs : List (Nat × V)} {es : List DictEntry}, FR sc φ fs es → (getL x es).isSome = true
  | _, _, .nil => rfl
  | _, _, .cons (x := y) (t := t) (c := c) (es := es) hy vr r => by
    have ih := FR.looks (x := x) r
    unfold getL at ih ⊢
    cases hq : (Value.str y t).isStr x with
    | true => rw [List.find?_cons_of_pos (by exact hq)]; rfl
    | false =>
      rw [List.find?_cons_of_neg (by rw [hq]; simp)]
      cases hf : List.find? (fun x_1 => x_1.key.isStr x) es with
      | some e => rfl
      | none =>
        rw [hf] at ih
        simp only [List.any_cons, DictEntry.refKey, Bool.false_or] at ih ⊢
        exact ih
theorem FR.put {sc : Addr} {φ : List Addr} {nm : Nat} {x : Str} {hsh : Int} {t : Tok} {v : V} {c : Value} (hx : attrNames[nm]? = some x) (vr : VR sc φ v c) :
    ∀ {fs : List (Nat × V)} {es : List DictEntry}, FR sc φ fs es → FR sc φ (putF fs nm v) (putL x hsh (.str x t) c es)
  | _, _, .nil => .cons hx vr .nil
  | _, _, .cons (nm := n2) (x := y) (t := t2) (c := c2) (v := v2) (fs := fs) (es := es) (hsh := h2) hy vr2 r => by
    unfold putF putL
    by_cases e : n2 = nm
    · subst e
      rw [hx] at hy; cases hy
      rw [if_pos rfl, if_pos (by exact isStr_iff.mpr rfl)]
      exact .cons hx vr r
    · have hne : ¬ (Value.str y t2).isStr x = true := fun q => e (attr_inj ((isStr_iff.mp q) ▸ hy) hx)
      rw [if_neg e, if_neg hne]
      exact .cons hy vr2 (FR.put hx vr r)
theorem FR.len {sc : Addr} {φ : List Addr} : ∀ {fs : List (Nat × V)} {es : List DictEntry}, FR sc φ fs es → es.length = fs.length
  | _, _, .nil => rfl
  | _, _, .cons _ _ r => by simp [FR.len r]
theorem handed_vr {sc : Addr} {φ : List Addr} {v : V} {c : Value} (h : VR sc φ v c) : handedIn c = true := by cases h <;> rfl

theorem GE_attr (S : StaOK prog P) {o : PySem.Expr} {name : Str} {nm : Nat} {pos : Pos} {a v : V} (hb : okBase o = true) (hx : attrNames[nm]? = some name) (ho : GE prog P k o ctx fr st a st1) (hv : attrV st1 a nm = some v) :
    GE prog P k (.Attribute o name pos) ctx fr st v st1 := fun env B φ s A Q E hA he r h => by
  refine Attribute_any_ (ho env B φ s A _ E hA he r fun s1 φ1 c r1 p1 va => ?_) ?_
  · unfold attrV at hv
    split at hv
    · cases va with | ref kk ad hk =>
      split at hv
      · rename_i d hd
        split at hv
        · rename_i fs hfs
          obtain ⟨da, hda, hob⟩ := r1.obj hd hk
          obtain ⟨es, n, hdict, hfr, hlen⟩ := r1.obj hfs hda
          obtain ⟨cv, h1, h2⟩ := hfr.get hx hv
          exact S.getA A s1 ad da es n nm name cv Q E (r1.kept he) hx hob hdict h1 (handed_vr h2) (h _ φ1 _ r1.same p1 h2)
        · cases hv
      · cases hv
    · cases hv
  · show (do
        let o' ← attributeBase o name env (eval o env)
        standAt pos.atName
        let r ← holding [o'] (getAttr o' name true)
        letTemporaryGo o o' r
        pure r) = _
    rw [base_ok hb]

/-! subscripts -/
theorem subscripted_ops (slice : PySem.Expr) (o i : Value) : ∃ ops, subscripted slice false o i = operate ops (getItem o i) := by
  cases slice with
  | Slice l u st p => cases st <;> exact ⟨_, rfl⟩
  | _ => exact ⟨_, rfl⟩

theorem GE_sub {a i : PySem.Expr} {pos : Pos} {x y v : V} (ha : GE prog P k a ctx fr st x st1) (hi : GE prog P k i ctx fr st1 y st2) (hv : subV st2 x y = some v) : GE prog P k (.Subscript a i pos) ctx fr st v st2 := fun env B φ s A Q E hA he r h => by
  refine Subscript_ (ha env B φ s A _ E hA he r fun s1 φ1 cx r1 p1 vx => hi env B φ1 s1 A _ E hA he r1 fun s2 φ2 cy r2 p2 vy => ?_)
  replace vx := vx.mono p2
  unfold subV at hv
  split at hv
  · rename_i kk j
    cases vx with | ref _ ad hk =>
    cases vy with | int _ t =>
    split at hv
    · rename_i xs hxs
      split at hv
      · rename_i h0
        obtain ⟨hlen, vs, hp, hvr⟩ := r2.listAt hk hxs
        obtain ⟨c, hc, vc⟩ := hvr.2 _ _ hv
        have hlt := (List.getElem?_eq_some_iff.mp hv).1
        obtain ⟨ops, hops⟩ := subscripted_ops i (.ref ad) (.int j t)
        refine tail_any hp.isList.typeIs slot_list_getitem.lookup (wpAny_getItem_list hp.isList h0 ?_ (by simpa using hc) (h _ φ2 _ r2 (p1.trans p2) vc)) hops
        have := bigInt hlen
        omega
      · cases hv
    · cases hv
  · cases hv

theorem GE_gtup (S : StaOK prog P) {x : Str} {px pos : Pos} {i : PySem.Expr} {t : Nat} {j : Int} {xs : List Int} {y : Int} (hx : ctx.glob x = true) (ht : idx theGlb.tups x = some t) (hxs : theTups[t]? = some xs)
    (hi : GE prog P k i ctx fr st (.int j) st1) (h0 : 0 ≤ j) (hj : j < 100) (hy : xs[j.toNat]? = some y) : GE prog P k (.Subscript (.Name x px) i pos) ctx fr st (.int y) st1 := fun env B φ s A Q E hA he r h => by
  obtain ⟨a, vs, xs', hm, hxs', htup, hI⟩ := S.gtups x t ht
  rw [hxs] at hxs'; cases hxs'
  refine Subscript_ (name_g S he r hx hm (hi env B φ s A _ E hA he r fun s1 φ1 cy r1 p1 vy => ?_))
  cases vy with | int _ tk =>
  obtain ⟨ops, hops⟩ := subscripted_ops i (.ref a) (.int j tk)
  have htup1 : s1.heap.IsTuple a vs.toArray := let ⟨o, e1, e2⟩ := htup; ⟨o, r1.kept he _ _ e1, e2⟩
  have hlt := (List.getElem?_eq_some_iff.mp hy).1
  obtain ⟨tt, hv⟩ := hI.get _ _ hy
  have hlen := hI.length
  refine tail_any (T := "tuple") (let ⟨o, e1, e2, _⟩ := htup1; ⟨o, e1, e2⟩) slot_tuple_getitem.lookup (getItem_tuple htup1 (by omega) (by omega) (j := j.toNat) ?_ (by simpa using hv) (h _ φ1 _ r1 p1 (.int _ _))) hops
  have hl2 : j < (vs.length : Int) := by omega
  unfold seqIndex?
  simp only [List.size_toArray]
  rw [if_neg (by omega : ¬ j < 0)]
  simp [h0, hl2]

/-- an optional bound -/
noncomputable def GO (prog : Program) (P : Sta) (k : Nat) (o : Option PySem.Expr) (ctx : Ctx) (fr : List V) (st : St) (v : V) (st' : St) : Prop :=
  ∀ env B φ s A Q E, AOK k A → EnvOK P env ctx B → R P env ctx B fr st φ s → K3 P env ctx B fr st' φ v Q → wpAny (model prog P.w) A (evalPart o env) Q E s
theorem GO_none : GO prog P k none ctx fr st .none st := fun _ _ φ _ _ _ _ _ _ r h => wpAny_pure (h _ φ _ r (Pre.refl _) .none)
theorem GO_some {e : PySem.Expr} {v : V} (h : GE prog P k e ctx fr st v st1) : GO prog P k (some e) ctx fr st v st1 := h

noncomputable def partOf : V → Option (Option Int)
  | .none => some none
  | .int i => some (some i)
  | _ => none
theorem pick_ok {sc : Addr} {φ : List Addr} {xs ys : List V} {vs : List Value} {lo hi : V} {cl ch : Value} (h : sliceL xs lo hi = some ys) (hv : VRs sc φ xs vs) (hl : VR sc φ lo cl) (hh : VR sc φ hi ch) :
    ∃ l u, IsPart cl l ∧ IsPart ch u ∧ ys.length ≤ xs.length ∧ ∃ ws : List Value, slicePick vs.toArray l u none = ws.toArray ∧ VRs sc φ ys ws := by
  unfold sliceL at h
  split at h
  · rename_i i
    cases hl
    cases hh with | int _ t =>
    split at h
    · rename_i h0
      cases h
      refine ⟨_, _, .none, .int i t, by simp; omega, _, kms_pick_eq _ _ _, ?_⟩
      have e : kms_pick vs.toArray.toList none (some i) = vs.take i.toNat := by
        unfold kms_pick kms_lo kms_hi
        simp only [if_neg (by omega : ¬ i < 0), List.drop_zero, Nat.sub_zero]
        by_cases q : i.toNat ≤ vs.length
        · rw [Nat.min_eq_left q]
        · rw [Nat.min_eq_right (by omega), List.take_length, List.take_of_length_le (by omega)]
      rw [e]; exact hv.take _
    · cases h
  · rename_i i
    cases hh
    cases hl with | int _ t =>
    split at h
    · rename_i h0
      cases h
      refine ⟨_, _, .int i t, .none, by simp, _, kms_pick_eq _ _ _, ?_⟩
      have e : kms_pick vs.toArray.toList (some i) none = vs.drop i.toNat := by
        unfold kms_pick kms_lo kms_hi
        simp only [if_neg (by omega : ¬ i < 0)]
        by_cases q : i.toNat ≤ vs.length
        · rw [Nat.min_eq_left q, List.take_of_length_le (by simp)]
        · rw [Nat.min_eq_right (by omega)]
          rw [List.drop_of_length_le (by omega), List.drop_of_length_le (by omega)]; simp
      rw [e]; exact hv.drop _
    · cases h
  · rename_i i j
    cases hl with | int _ t =>
    cases hh with | int _ u =>
    split at h
    · rename_i h0
      cases h
      refine ⟨_, _, .int i t, .int j u, by simp; omega, _, kms_pick_eq _ _ _, ?_⟩
      have e : kms_pick vs.toArray.toList (some i) (some j) = (vs.take j.toNat).drop i.toNat := by
        unfold kms_pick kms_lo kms_hi
        simp only [if_neg (by omega : ¬ i < 0), if_neg (by omega : ¬ j < 0)]
        apply List.ext_getElem?
        intro n
        rw [List.getElem?_take, List.getElem?_drop, List.getElem?_drop, List.getElem?_take]
        by_cases q : i.toNat ≤ vs.length
        · rw [Nat.min_eq_left q]
          by_cases q2 : j.toNat ≤ vs.length
          · rw [Nat.min_eq_left q2]
            by_cases q3 : i.toNat + n < j.toNat
            · rw [if_pos (by omega), if_pos q3]
            · rw [if_neg (by omega), if_neg q3]
          · rw [Nat.min_eq_right (by omega)]
            by_cases q3 : i.toNat + n < vs.length
            · rw [if_pos (by omega), if_pos (by omega)]
            · rw [if_neg (by omega), List.getElem?_eq_none (by omega)]; simp
        · rw [Nat.min_eq_right (show vs.length ≤ i.toNat by omega)]
          rw [List.getElem?_eq_none (l := vs) (i := vs.length + n) (by omega), List.getElem?_eq_none (l := vs) (i := i.toNat + n) (by omega)]; simp
      rw [e]; exact (hv.take _).drop _
    · cases h
  · cases h

theorem GE_slice {a : PySem.Expr} {lo hi : Option PySem.Expr} {ps pos : Pos} {x : V} {l u : V} {xs ys : List V} {scr : List Int} (S : StaOK prog P) (hscr : scr = P.scr)
    (ha : GE prog P k a ctx fr st x st1) (hl : GO prog P k lo ctx fr st1 l st2) (hu : GO prog P k hi ctx fr st2 u st3)
    (hx : (x = .scr ∧ xs = scr.map .int) ∨ ∃ j, x = .ref j ∧ st3[j]? = some (.lst xs)) (hp : sliceL xs l u = some ys) :
    GE prog P k (.Subscript a (.Slice lo hi none ps) pos) ctx fr st (.ref st3.length) (st3 ++ [.lst ys]) := fun env B φ s A Q E hA he r h => by
  refine Subscript_ (ha env B φ s A _ E hA he r fun s1 φ1 cx r1 p1 vx => wpAny_Slice (hl env B φ1 s1 A _ E hA he r1 fun s2 φ2 cl r2 p2 vl => hu env B φ2 s2 A _ E hA he r2 fun s3 φ3 cu r3 p3 vu => ?_))
  refine wpAny_pure ?_
  have vx := vx.mono (p2.trans p3)
  have vl := vl.mono p3
  -- the list that is cut
  have key : ∃ (b : Addr) (vs : List Value), cx = .ref b ∧ s3.heap.IsList b vs.toArray ∧ VRs P.sc φ3 xs vs ∧ xs.length ≤ lim := by
    rcases hx with ⟨rfl, rfl⟩ | ⟨j, rfl, hj⟩
    · cases vx
      obtain ⟨⟨vs, hI, hi⟩, hlen⟩ := S.script
      refine ⟨P.sc, vs, rfl, ?_, ?_, by rw [hscr]; simp; show _ ≤ 1000000; omega⟩
      · obtain ⟨o, e, q⟩ := hI; exact ⟨o, r3.kept he _ _ e, q⟩
      · refine ⟨by rw [hi.length, hscr]; simp, fun i y hy => ?_⟩
        rw [hscr, List.getElem?_map] at hy
        obtain ⟨n, hn, rfl⟩ := Option.map_eq_some_iff.mp hy
        obtain ⟨t, ht⟩ := hi.get _ _ hn
        exact ⟨_, ht, .int _ _⟩
    · cases vx with | ref _ ad hk =>
      obtain ⟨hlen, vs, hp, hv⟩ := r3.listAt hk hj
      exact ⟨ad, vs, rfl, hp.isList, hv, hlen⟩
  obtain ⟨b, vs, rfl, hI, hv, hlen⟩ := key
  obtain ⟨li, ui, pl, pu, hle, ws, hpick, hw⟩ := pick_ok hp hv vl vu
  have r4 : R P env ctx B fr st3 φ3 { s3 with heap := s3.heap.push { cls := .type "slice", data := .fields #[cl, cu, .none] } } := r3.grow fun b o e => Heap.get?_push_of_some _ e
  have hI4 : (s3.heap.push { cls := .type "slice", data := .fields #[cl, cu, .none] }).IsList b vs.toArray := hI.push _
  obtain ⟨ops, hops⟩ := subscripted_ops (.Slice lo hi none ps) (.ref b) (.ref s3.heap.objs.size)
  refine tail_any (T := "list") hI4.typeIs slot_list_getitem.lookup (wpAny_getItem_list_slice hI4 ⟨_, Heap.get?_push_size _ rfl, rfl, rfl⟩ pl pu .none (by simp) ?_ (by rw [List.size_toArray, hv.1]; exact lim_line hlen)) hops
  rw [hpick]
  exact h _ _ _ (r4.newList hw (by omega)) (p1.trans (p2.trans (p3.trans (Pre.push _ _)))) (.last r4.len)
end
end Mine

-- M7
/-! Storing names; iterators. -/
namespace Mine
open PySem PySem.W PyProof.Rows
set_option maxRecDepth 10000
section
variable {prog : Program} {P : Sta} {env : Env} {ctx : Ctx} {B : Addr → Option Obj} {fr : List V} {st st1 st2 st3 : St} {φ : List Addr} {s : Shared} {A : Around} {E : Value → Shared → Prop} {k : Nat}

/-- the frame's cells are its own -/
structure Own (env : Env) (ctx : Ctx) (B : Addr → Option Obj) : Prop where
  noFree : ∀ x i, (x, i) ∈ ctx.vars → env.kindOf x ≠ some .free
  cellB : ∀ x c, env.cells.lookup x = some c → B c = none
  apart : ∀ x y c, env.cells.lookup x = some c → env.cells.lookup y = some c → x = y

theorem set_get {fr : List V} {i j : Nat} {v w : V} (h : (fr.set i v)[j]? = some w) : (j = i ∧ w = v) ∨ (j ≠ i ∧ fr[j]? = some w) := by
  rw [List.getElem?_set] at h
  by_cases e : i = j
  · subst e
    simp only [if_true] at h
    split at h
    · cases h; exact .inl ⟨rfl, rfl⟩
    · cases h
  · rw [if_neg e] at h; exact .inr ⟨fun q => e q.symm, h⟩

theorem R.forget (r : R P env ctx B fr st φ s) (i : Nat) : R P env ctx B (fr.set i .undef) st φ s where
  len := r.len
  objs := r.objs
  nodup := r.nodup
  base := r.base
  off := r.off
  loc := let ⟨m, hm, q⟩ := r.loc; ⟨m, hm, fun x j v h1 h2 h3 h4 => by
    rcases set_get h3 with ⟨_, e⟩ | ⟨_, e⟩
    · exact absurd e h4
    · exact q x j v h1 h2 e h4⟩
  cel := fun x j h1 h2 => let ⟨c, ov, a, b, q⟩ := r.cel x j h1 h2; ⟨c, ov, a, b, fun v h3 h4 => by
    rcases set_get h3 with ⟨_, e⟩ | ⟨_, e⟩
    · exact absurd e h4
    · exact q v e h4⟩
  celoff := r.celoff
  locoff := r.locoff
  gens := r.gens
  os := r.os

theorem store_local (e : EnvOK P env ctx B) (r : R P env ctx B fr st φ s) {x : Str} {i : Nat} {v : V} {c : Value} {Q : Unit → Shared → Prop} (hx : (x, i) ∈ ctx.vars) (hk : env.kindOf x = some .local) (vr : VR P.sc φ v c)
    (h : ∀ s', R P env ctx B (fr.set i v) st φ s' → Q () s') : wpAny (model prog P.w) A (storeName env x c) Q E s := by
  obtain ⟨m, hm, q⟩ := r.loc
  refine wpAny_storeName_local hk hm (fun h' hn hs => h _ ?_) (by rw [e.kind]; rfl)
  have hk' : ∀ b o, b ≠ env.locals → s.heap.get? b = some o → h'.get? b = some o := fun b o hb he => (hs.2 b hb).trans he
  refine ⟨r.len, fun kk o ho => ?_, r.nodup, fun b o hb => hk' b o ?_ (r.base b o hb), r.off, ⟨_, hn, ?_⟩, ?_, ?_, r.locoff, r.gens, r.os⟩
  · obtain ⟨a, ha, q⟩ := r.objs kk o ho
    exact ⟨a, ha, q.keep (Pre.refl _) fun ob => hk' a ob fun ea => r.locoff (ea ▸ List.mem_iff_getElem?.mpr ⟨kk, ha⟩)⟩
  · rintro rfl; rw [e.locB] at hb; cases hb
  · intro y j u h1 h2 h3 h4
    rcases set_get h3 with ⟨rfl, rfl⟩ | ⟨hne, e3⟩
    · have : y = x := e.inj y x _ h1 hx
      subst this
      exact ⟨c, by simp, vr⟩
    · have hyx : y ≠ x := fun e4 => hne (e.fn x j i (e4 ▸ h1) hx)
      obtain ⟨c', h5, h6⟩ := q y j u h1 h2 e3 h4
      exact ⟨c', by simp only [if_neg hyx]; exact h5, h6⟩
  · intro y j h1 h2
    obtain ⟨cc, ov, h3, ⟨o, h4, h5⟩, h6⟩ := r.cel y j h1 h2
    refine ⟨cc, ov, h3, ⟨o, hk' _ _ (r.celoff y cc h3).2.1 h4, h5⟩, fun u h7 h8 => ?_⟩
    rcases set_get h7 with ⟨rfl, rfl⟩ | ⟨hne, e3⟩
    · have : y = x := e.inj y x _ h1 hx
      subst this
      rw [hk] at h2; rcases h2 with h2 | h2 <;> cases h2
    · exact h6 u e3 h8
  · intro y cc h3
    obtain ⟨h1, h2, ov, o, h4, h5⟩ := r.celoff y cc h3
    exact ⟨h1, h2, ov, o, hk' _ _ h2 h4, h5⟩

theorem store_ok (e : EnvOK P env ctx B) (w : Own env ctx B) (r : R P env ctx B fr st φ s) {x : Str} {i : Nat} {v : V} {c : Value} {Q : Unit → Shared → Prop} (hx : (x, i) ∈ ctx.vars) (vr : VR P.sc φ v c)
    (h : ∀ s', R P env ctx B (fr.set i v) st φ s' → Q () s') : wpAny (model prog P.w) A (storeName env x c) Q E s := by
  rcases e.known x i hx with hk | hk | hk
  · exact store_local e r hx hk vr h
  · obtain ⟨cc, ov, h3, h4, h6⟩ := r.cel x i hx (.inl hk)
    refine wpAny_storeName_cell e.kind hk h3 h4 fun h' hc hs => h _ ?_
    have hk' : ∀ b o, b ≠ cc → s.heap.get? b = some o → h'.get? b = some o := fun b o hb he => (hs.2 b hb).trans he
    obtain ⟨o1, o2, _⟩ := r.celoff x cc h3
    refine ⟨r.len, fun kk o ho => ?_, r.nodup, fun b o hb => hk' b o ?_ (r.base b o hb), r.off, ?_, ?_, ?_, r.locoff, r.gens, r.os⟩
    · obtain ⟨a, ha, q⟩ := r.objs kk o ho
      exact ⟨a, ha, q.keep (Pre.refl _) fun ob => hk' a ob fun ea => o1 (ea ▸ List.mem_iff_getElem?.mpr ⟨kk, ha⟩)⟩
    · rintro rfl; rw [w.cellB x b h3] at hb; cases hb
    · obtain ⟨m, ⟨o, es, ep, h7, h8⟩, q⟩ := r.loc
      refine ⟨m, ⟨o, es, ep, hk' _ _ (fun q => o2 q.symm) h7, h8⟩, fun y j u h1 h2 h3' h4' => ?_⟩
      rcases set_get h3' with ⟨rfl, rfl⟩ | ⟨hne, e3⟩
      · have : y = x := e.inj y x _ h1 hx
        subst this
        rw [hk] at h2; cases h2
      · exact q y j u h1 h2 e3 h4'
    · intro y j h1 h2
      by_cases hyx : y = x
      · subst hyx
        have : j = i := e.fn y j i h1 hx
        subst this
        refine ⟨cc, some c, h3, hc, fun u h7 h8 => ?_⟩
        rcases set_get h7 with ⟨_, rfl⟩ | ⟨hne, e3⟩
        · exact ⟨c, rfl, vr⟩
        · exact absurd rfl hne
      · obtain ⟨c2, ov2, h3', ⟨o, h4', h5'⟩, h6'⟩ := r.cel y j h1 h2
        have hne2 : c2 ≠ cc := fun q => hyx (w.apart y x c2 h3' (q ▸ h3))
        refine ⟨c2, ov2, h3', ⟨o, hk' _ _ hne2 h4', h5'⟩, fun u h7 h8 => ?_⟩
        rcases set_get h7 with ⟨rfl, rfl⟩ | ⟨hne, e3⟩
        · exact absurd (e.inj y x _ h1 hx) hyx
        · exact h6' u e3 h8
    · intro y c2 h3'
      obtain ⟨h1, h2, ov2, o, h4', h5'⟩ := r.celoff y c2 h3'
      by_cases hq : c2 = cc
      · subst hq; exact ⟨h1, h2, some c, hc⟩
      · exact ⟨h1, h2, ov2, o, hk' _ _ hq h4', h5'⟩
  · exact absurd hk (w.noFree x i hx)

theorem assign_ok (e : EnvOK P env ctx B) (w : Own env ctx B) (r : R P env ctx B fr st φ s) {x : Str} {i : Nat} {v : V} {c : Value} {pos : Pos} {Q : Unit → Shared → Prop} (hx : (x, i) ∈ ctx.vars) (vr : VR P.sc φ v c)
    (h : ∀ s', R P env ctx B (fr.set i v) st φ s' → Q () s') : wpAny (model prog P.w) A (assign (.Name x pos) env c) Q E s := wpAny_assign_Name (store_ok e w r hx vr h)

/-! iterators -/
noncomputable def ItAt (h : Heap) (I a : Addr) (o : O) (i : Nat) : Prop :=
  match o with
  | .lst _ => h.IsListIter I a i
  | .tup _ => h.IsTupleIter I a i
  | .rng x _ z => ∃ (left : Int), IsRangeIter h I (x + z * i) left z ∧ left = (rngLen x (match o with | .rng _ y _ => y | _ => 0) z : Int) - i
  | _ => False
theorem ItAt.some {h : Heap} {I a : Addr} {o : O} {i : Nat} (x : ItAt h I a o i) : ∃ ob, h.get? I = Option.some ob := by
  cases o with
  | lst => obtain ⟨o, e, _⟩ := x; exact ⟨o, e⟩
  | tup => obtain ⟨o, e, _⟩ := x; exact ⟨o, e⟩
  | rng => obtain ⟨l, e, _⟩ := x; exact ⟨_, e⟩
  | inst => exact x.elim
  | dct => exact x.elim
theorem ItAt.keep {h h' : Heap} {I a : Addr} {o : O} {i : Nat} (x : ItAt h I a o i) (k : h'.get? I = h.get? I) : ItAt h' I a o i := by
  cases o with
  | lst => obtain ⟨o, e, q⟩ := x; exact ⟨o, k.trans e, q⟩
  | tup => obtain ⟨o, e, q⟩ := x; exact ⟨o, k.trans e, q⟩
  | rng => obtain ⟨l, e, q⟩ := x; exact ⟨l, k.trans e, q⟩
  | inst => exact x.elim
  | dct => exact x.elim

noncomputable def isIter : O → Bool
  | .lst _ | .tup _ | .rng .. => true
  | _ => false
theorem nextItem_iter {st : St} {j i : Nat} {o : O} (h : nextItem st j o i ≠ none) : isIter o = true := by
  cases o <;> first | rfl | exact absurd rfl h
theorem iter_ok {j : Nat} {a : Addr} {o : O} {Q : Value → Shared → Prop} (r : R P env ctx B fr st φ s) (hj : st[j]? = some o) (ha : φ[j]? = some a) (hi : isIter o = true)
    (h : ∀ h', (∀ b ob, s.heap.get? b = some ob → h'.get? b = some ob) → ItAt h' s.heap.objs.size a o 0 → Q (.ref s.heap.objs.size) { s with heap := h' }) : wpAny (model prog P.w) A (pyIter (.ref a)) Q E s := by
  cases o with
  | lst xs =>
    obtain ⟨_, vs, hp, _⟩ := r.listAt ha hj
    exact wpAny_pyIter_list hp.isList (h _ (fun b ob e => Heap.get?_push_of_some _ e) ⟨_, Heap.get?_push_size _ rfl, rfl, rfl⟩)
  | tup xs =>
    obtain ⟨_, vs, n, hp, _⟩ := r.obj hj ha
    exact wpAny_pyIter_tuple ⟨_, hp, rfl, n, rfl⟩ (h _ (fun b ob e => Heap.get?_push_of_some _ e) ⟨_, Heap.get?_push_size _ rfl, rfl, rfl⟩)
  | rng x y z =>
    obtain ⟨⟨t, u, v, hr⟩, sa, sb, sc, hz⟩ := r.obj hj ha
    obtain ⟨f1, f2, f3⟩ := range_facts sa sb sc hz
    refine wpAny_pyIter_range hr f1 (h _ (fun b ob e => Heap.get?_push_of_some _ e) ⟨_, ?_, rfl⟩)
    have e : x + z * ((0 : Nat) : Int) = x := by simp
    have e2 : (rngLen x y z : Int) - ((0 : Nat) : Int) = rngLen x y z := by simp
    show IsRangeIter _ _ (x + z * ((0 : Nat) : Int)) ((rngLen x y z : Int) - ((0 : Nat) : Int)) z
    rw [e, e2, ← f2]
    exact Heap.get?_push_size _ rfl
  | inst => cases hi
  | dct => cases hi

theorem next_some {j i : Nat} {a I : Addr} {o : O} {v : V} {Q : Option Value → Shared → Prop} (r : R P env ctx B fr st φ s) (ha : φ[j]? = some a) (hI : ItAt s.heap I a o i) (hn : nextItem st j o i = some (some v))
    (h : ∀ h' tk c, ItAt h' I a o (i + 1) → Heap.SameBut I s.heap h' → VR P.sc φ v c → Q (some c) { s with heap := h', toks := tk }) : wpAny (model prog P.w) A (pyNext (.ref I)) Q E s := by
  unfold nextItem at hn
  split at hn
  · split at hn
    · rename_i xs hx
      cases hn' : xs[i]? with
      | none => rw [hn'] at hn; cases hn
      | some u =>
        rw [hn'] at hn; cases hn
        obtain ⟨_, vs, hp, hv⟩ := r.listAt ha hx
        obtain ⟨c, hc, vr⟩ := hv.2 _ _ hn'
        exact wpAny_pyNext_list_item hI hp.isList (by simpa using hc) fun h' hi' hs => h h' s.toks c hi' hs vr
    · cases hn
  · split at hn
    · rename_i xs hx
      cases hn' : xs[i]? with
      | none => rw [hn'] at hn; cases hn
      | some u =>
        rw [hn'] at hn; cases hn
        obtain ⟨_, vs, n, hp, hv⟩ := r.obj hx ha
        obtain ⟨c, hc, vr⟩ := hv.2 _ _ hn'
        exact wpAny_pyNext_tuple_item hI ⟨_, hp, rfl, n, rfl⟩ (by simpa using hc) fun h' hi' hs => h h' s.toks c hi' hs vr
    · cases hn
  · rename_i x y z
    split at hn
    · rename_i hlt
      cases hn
      obtain ⟨l, hit, rfl⟩ := hI
      refine wpAny_pyNext_range_item hit (by show 0 < (rngLen x y z : Int) - i; omega) fun h' hi' hs => h h' _ _ ⟨_, (by have e : x + z * ((i + 1 : Nat) : Int) = x + z * i + z := by { rw [Int.natCast_succ, Int.mul_add, Int.mul_one]; omega }
                                                                                                                         rw [e]; exact hi'), ?_⟩ hs ?_
      · show (rngLen x y z : Int) - i - 1 = (rngLen x y z : Int) - ((i + 1 : Nat) : Int)
        omega
      · exact .int _ _
    · cases hn
  · cases hn

theorem next_none {j i : Nat} {a I : Addr} {o : O} {Q : Option Value → Shared → Prop} (hA : A.handled = none) (r : R P env ctx B fr st φ s) (ha : φ[j]? = some a) (hI : ItAt s.heap I a o i) (hn : nextItem st j o i = some none)
    (h : ∀ h', Heap.ExtBut I s.heap h' → Q none { s with heap := h' }) : wpAny (model prog P.w) A (pyNext (.ref I)) Q E s := by
  unfold nextItem at hn
  split at hn
  · split at hn
    · rename_i xs hx
      cases hn' : xs[i]? with
      | some => rw [hn'] at hn; cases hn
      | none =>
        obtain ⟨_, vs, hp, hv⟩ := r.listAt ha hx
        have : vs[i]? = none := by
          rw [List.getElem?_eq_none_iff] at hn' ⊢
          rw [hv.1]; exact hn'
        exact wpAny_pyNext_list_end hA hI hp.isList (by simpa using this) h
    · cases hn
  · split at hn
    · rename_i xs hx
      cases hn' : xs[i]? with
      | some => rw [hn'] at hn; cases hn
      | none =>
        obtain ⟨_, vs, n, hp, hv⟩ := r.obj hx ha
        have : vs[i]? = none := by
          rw [List.getElem?_eq_none_iff] at hn' ⊢
          rw [hv.1]; exact hn'
        exact wpAny_pyNext_tuple_end hA hI ⟨_, hp, rfl, n, rfl⟩ (by simpa using this) h
    · cases hn
  · rename_i x y z
    split at hn
    · cases hn
    · rename_i hlt
      obtain ⟨l, hit, rfl⟩ := hI
      exact wpAny_pyNext_range_end hA hit (by show (rngLen x y z : Int) - i ≤ 0; omega) h
  · cases hn

theorem iter_again {I a : Addr} {o : O} {i : Nat} {Q : Value → Shared → Prop} (hI : ItAt s.heap I a o i) (h : Q (.ref I) s) : wpAny (model prog P.w) A (pyIter (.ref I)) Q E s := by
  cases o with
  | lst => exact wpAny_pyIter_listiter hI h
  | tup => exact wpAny_pyIter_tupleiter hI h
  | rng => obtain ⟨l, e, _⟩ := hI; exact wpAny_pyIter_rangeiter e h
  | inst => exact hI.elim
  | dct => exact hI.elim
end
end Mine

-- M8
/-! Comprehensions. -/
namespace Mine
open PySem PySem.W PyProof.Rows
set_option maxRecDepth 10000

theorem lookup_mem {α : Type} : ∀ {l : List (Str × α)} {x : Str} {v : α}, l.lookup x = some v → (x, v) ∈ l := fun h => mem_of_lookup h
theorem lookup_some {α : Type} : ∀ {l : List (Str × α)} {x : Str} {v : α}, (x, v) ∈ l → ∃ u, l.lookup x = some u
  | (y, w) :: r, x, v, h => by
    rw [List.lookup_cons]
    cases e : x == y with
    | true => exact ⟨w, rfl⟩
    | false =>
      rcases List.mem_cons.mp h with h | h
      · cases h; simp at e
      · exact lookup_some h
theorem lookup_map {α β : Type} (f : Str × α → Str × β) (g : Str → α → β) (hf : ∀ p, f p = (p.1, g p.1 p.2)) : ∀ (l : List (Str × α)) (x : Str), (l.map f).lookup x = (l.lookup x).map (g x)
  | [], _ => rfl
  | (y, v) :: r, x => by
    rw [List.map_cons, hf, List.lookup_cons, List.lookup_cons]
    cases e : x == y with
    | true => simp at e; subst e; rfl
    | false => exact lookup_map f g hf r x
theorem own_eq (c : Ctx) (p : Str × NameKind) : c.own p = (p.1, if p.2 == .free && c.names.lookup p.1 == some .cell then .cell else p.2) := by
  unfold Ctx.own
  split <;> simp_all

/-- the closure of a comprehension's scope -/
noncomputable def clOf (cells : List (Str × Addr)) : List (Str × NameKind) → List (Str × Addr) → List (Str × Addr)
  | [], acc => acc
  | (n, kd) :: r, acc => if kd == .free then clOf cells r ((n, (cells.lookup n).getD 0) :: acc) else clOf cells r acc
theorem closure_eq {scope : Scope} {env : Env} (h : ∀ x, (x, NameKind.free) ∈ scope.names → ∃ c, env.cells.lookup x = some c) : closureFor scope env = pure (clOf env.cells scope.names []) := by
  unfold closureFor
  have key : ∀ (names : List (Str × NameKind)) (acc : List (Str × Addr)), (∀ x, (x, NameKind.free) ∈ names → ∃ c, env.cells.lookup x = some c) →
      (forIn names acc fun (p : Str × NameKind) (cs : List (Str × Addr)) => (if (p.2 == .free) = true then do let a ← cellOf env p.1; pure (.yield ((p.1, a) :: cs)) else pure (.yield cs) : Sem (ForInStep (List (Str × Addr))))) = pure (clOf env.cells names acc) := by
    intro names
    induction names with
    | nil => intro acc _; rfl
    | cons p r ih =>
      intro acc h
      obtain ⟨n, kd⟩ := p
      rw [List.forIn_cons]
      unfold clOf
      cases hk : kd == NameKind.free with
      | true =>
        simp only [if_true]
        have hk' : kd = .free := by simpa using hk
        subst hk'
        obtain ⟨c, hc⟩ := h n List.mem_cons_self
        have e : cellOf env n = pure c := by unfold cellOf; rw [hc]
        rw [e, hc]
        exact ih _ fun x hx => h x (List.mem_cons_of_mem _ hx)
      | false =>
        simp only [Bool.false_eq_true, if_false]
        exact ih _ fun x hx => h x (List.mem_cons_of_mem _ hx)
  have := key scope.names [] h
  exact congrArg (fun t => t >>= fun cs => pure cs) this |>.trans rfl
theorem clOf_lookup {cells : List (Str × Addr)} : ∀ (names : List (Str × NameKind)) (acc : List (Str × Addr)), (∀ x, (x, NameKind.free) ∈ names → ∃ c, cells.lookup x = some c) →
    (∀ x c, acc.lookup x = some c → cells.lookup x = some c) →
    (∀ x c, (clOf cells names acc).lookup x = some c → cells.lookup x = some c) ∧ (∀ x, ((x, NameKind.free) ∈ names ∨ (acc.lookup x).isSome) → ((clOf cells names acc).lookup x).isSome)
  | [], acc, _, h => ⟨h, fun x hx => hx.elim (fun h => nomatch h) id⟩
  | (n, kd) :: r, acc, hn, h => by
    unfold clOf
    cases hk : kd == NameKind.free with
    | true =>
      have hk' : kd = .free := by simpa using hk
      subst hk'
      obtain ⟨c, hc⟩ := hn n List.mem_cons_self
      simp only [if_true, hc, Option.getD_some]
      obtain ⟨i1, i2⟩ := clOf_lookup r ((n, c) :: acc) (fun x hx => hn x (List.mem_cons_of_mem _ hx)) (fun x d hd => by
        rw [List.lookup_cons] at hd
        cases e : x == n with
        | true => rw [e] at hd; cases hd; simp at e; subst e; exact hc
        | false => rw [e] at hd; exact h x d hd)
      refine ⟨i1, fun x hx => i2 x ?_⟩
      rcases hx with hx | hx
      · rcases List.mem_cons.mp hx with e | hx
        · cases e; exact .inr (by rw [List.lookup_cons]; simp)
        · exact .inl hx
      · refine .inr ?_
        rw [List.lookup_cons]
        cases e : x == n with
        | true => rfl
        | false => exact hx
    | false =>
      simp only [Bool.false_eq_true, if_false]
      obtain ⟨i1, i2⟩ := clOf_lookup r acc (fun x hx => hn x (List.mem_cons_of_mem _ hx)) h
      refine ⟨i1, fun x hx => i2 x ?_⟩
      rcases hx with hx | hx
      · rcases List.mem_cons.mp hx with e | hx
        · cases e; simp at hk
        · exact .inl hx
      · exact .inr hx

section
variable {prog : Program} {P : Sta} {env : Env} {ctx : Ctx} {B B1 : Addr → Option Obj} {fr : List V} {st st1 st2 st3 : St} {φ : List Addr} {s : Shared} {A : Around} {E : Value → Shared → Prop} {k : Nat} {scope : Scope} {x : Str}

structure CompOK (ctx : Ctx) (scope : Scope) (x : Str) : Prop where
  kind : scope.kind = .function
  noCell : ∀ y ∈ scope.names, y.2 ≠ .cell
  names : ∀ y ∈ scope.names, y.2 = .local → scope.names.lookup y.1 = some .local
  hx : scope.names.lookup x = some .local
  free : ∀ y, (y, NameKind.free) ∈ scope.names → ∃ i, (y, i) ∈ ctx.vars ∧ (ctx.names.lookup y = some .cell ∨ ctx.names.lookup y = some .free)
  good : (x == ("__debug__" : Str)) = false ∧ (x == ("__classdict__" : Str)) = false
theorem CompOK.of (h : compOk ctx scope x = true) : CompOK ctx scope x := by
  simp only [compOk, Bool.and_eq_true, beq_iff_eq, List.all_eq_true, Bool.or_eq_true, bne_iff_ne, ne_eq, Bool.not_eq_true'] at h
  obtain ⟨⟨⟨⟨⟨⟨h1, h2⟩, h3⟩, h4⟩, h5⟩, h6⟩, h7⟩ := h
  refine ⟨h1, h2, fun y hy e => (h3 y hy).resolve_left (fun q => q e), h4, fun y hy => ?_, h6, h7⟩
  rcases h5 _ hy with q | ⟨q1, q2⟩
  · exact absurd rfl q
  · obtain ⟨i, hi⟩ := Option.isSome_iff_exists.mp q1
    exact ⟨i, lookup_mem hi, q2⟩

theorem comp_names (e : EnvOK P env ctx B) : (relabel scope env).names = scope.names.map ctx.own := by
  unfold relabel
  refine List.map_congr_left fun p _ => ?_
  obtain ⟨n, kd⟩ := p
  unfold Ctx.own Env.kindOf
  simp only [e.kind, e.names, beq_self_eq_true, Bool.and_true]

theorem comp_kind (y : Str) : (scope.names.map ctx.own).lookup y = (scope.names.lookup y).map fun kd => if kd == .free && ctx.names.lookup y == some .cell then .cell else kd :=
  lookup_map ctx.own (fun y kd => if kd == .free && ctx.names.lookup y == some .cell then .cell else kd) (own_eq ctx) _ y

theorem comp_env (e : EnvOK P env ctx B) (h : CompOK ctx scope x) {cl : List (Str × Addr)} {C : Addr} (hC : B1 C = none) (hB : ∀ b o, P.h0.get? b = some o → B1 b = some o) : EnvOK P (compEnvC scope cl C env) (ctx.inComp scope x) B1 where
  kind := h.kind
  glb := e.glb
  blt := e.blt
  names := comp_names e
  inj := by
    intro a b i ha hb
    rcases List.mem_cons.mp ha with ha | ha <;> rcases List.mem_cons.mp hb with hb | hb
    · cases ha; cases hb; rfl
    · cases ha; have := e.below b _ (List.mem_filter.mp hb).1; omega
    · cases hb; have := e.below a _ (List.mem_filter.mp ha).1; omega
    · exact e.inj a b i (List.mem_filter.mp ha).1 (List.mem_filter.mp hb).1
  fn := by
    intro a i j ha hb
    rcases List.mem_cons.mp ha with ha | ha <;> rcases List.mem_cons.mp hb with hb | hb
    · cases ha; cases hb; rfl
    · cases ha; have := (List.mem_filter.mp hb).2; simp at this
    · cases hb; have := (List.mem_filter.mp ha).2; simp at this
    · exact e.fn a i j (List.mem_filter.mp ha).1 (List.mem_filter.mp hb).1
  below := by
    intro a i ha
    show i < ctx.next + 1
    rcases List.mem_cons.mp ha with ha | ha
    · cases ha; omega
    · have := e.below a i (List.mem_filter.mp ha).1; omega
  known := by
    intro a i ha
    show (relabel scope env).names.lookup a = _ ∨ (relabel scope env).names.lookup a = _ ∨ (relabel scope env).names.lookup a = _
    rw [comp_names e, comp_kind]
    rcases List.mem_cons.mp ha with ha | ha
    · cases ha; rw [h.hx]; exact .inl rfl
    · have := (List.mem_filter.mp ha).2
      simp only [Bool.and_eq_true, beq_iff_eq] at this
      rw [this.2]
      simp only [Option.map_some, beq_self_eq_true, Bool.true_and]
      split
      · exact .inr (.inl rfl)
      · exact .inr (.inr rfl)
  good := by
    intro a i ha
    rcases List.mem_cons.mp ha with ha | ha
    · cases ha; exact h.good
    · exact e.good a i (List.mem_filter.mp ha).1
  hB := hB
  locB := hC

theorem R.toComp (e : EnvOK P env ctx B) (h : CompOK ctx scope x) (r : R P env ctx B1 fr st φ s) {C : Addr} {m : Str → Option Value} (hC : s.heap.Ns C m) (hCφ : C ∉ φ) (hcells : ∀ y c, env.cells.lookup y = some c → c ≠ C) :
    R P (compEnvC scope (clOf env.cells scope.names []) C env) (ctx.inComp scope x) B1 (fr.set ctx.next .undef) st φ s := by
  have hfree : ∀ y, (y, NameKind.free) ∈ scope.names → ∃ c, env.cells.lookup y = some c := fun y hy => by
    obtain ⟨i, hi, hk⟩ := h.free y hy
    have hk' : env.kindOf y = some .cell ∨ env.kindOf y = some .free := by unfold Env.kindOf; rw [e.names]; exact hk
    obtain ⟨c, _, hc, _⟩ := r.cel y i hi hk'
    exact ⟨c, hc⟩
  obtain ⟨cl1, cl2⟩ := clOf_lookup scope.names [] hfree (fun x c hc => by simp at hc)
  have kinds : ∀ y, (compEnvC scope (clOf env.cells scope.names []) C env).kindOf y = (scope.names.lookup y).map fun kd => if kd == .free && ctx.names.lookup y == some .cell then .cell else kd := fun y => by
    show (relabel scope env).names.lookup y = _
    rw [comp_names e, comp_kind]
  refine ⟨r.len, r.objs, r.nodup, r.base, r.off, ⟨m, hC, fun y i v hy hk hv hne => ?_⟩, fun y i hy hk => ?_, fun y c hc => ?_, hCφ, r.gens, r.os⟩
  · rcases List.mem_cons.mp hy with hy | hy
    · cases hy
      rcases set_get hv with ⟨_, rfl⟩ | ⟨q, _⟩
      · exact absurd rfl hne
      · exact absurd rfl q
    · have := (List.mem_filter.mp hy).2
      simp only [Bool.and_eq_true, beq_iff_eq] at this
      rw [kinds, this.2] at hk
      simp only [Option.map_some, beq_self_eq_true, Bool.true_and] at hk
      split at hk <;> cases hk
  · rcases List.mem_cons.mp hy with hy | hy
    · cases hy
      rw [kinds, h.hx] at hk
      rcases hk with hk | hk <;> cases hk
    · have hmem := (List.mem_filter.mp hy).1
      have := (List.mem_filter.mp hy).2
      simp only [Bool.and_eq_true, beq_iff_eq] at this
      have hfr := lookup_mem this.2
      obtain ⟨j, hj, hk2⟩ := h.free y hfr
      have hk' : env.kindOf y = some .cell ∨ env.kindOf y = some .free := by unfold Env.kindOf; rw [e.names]; exact hk2
      have hij : j = i := e.fn y j i hj hmem
      subst hij
      obtain ⟨c, ov, h1, h2, h3⟩ := r.cel y j hj hk'
      obtain ⟨d, hd⟩ := Option.isSome_iff_exists.mp (cl2 y (.inl hfr))
      have hdc := cl1 y d hd
      rw [h1] at hdc; cases hdc
      refine ⟨c, ov, hd, h2, fun v hv hne => ?_⟩
      rcases set_get hv with ⟨_, rfl⟩ | ⟨_, hv⟩
      · exact absurd rfl hne
      · exact h3 v hv hne
  · obtain ⟨h1, h2, h3⟩ := r.celoff y c (cl1 y c hc)
    exact ⟨h1, hcells y c (cl1 y c hc), h3⟩

/-- back in the frame -/
theorem R.fromComp {cenv : Env} {cctx : Ctx} {fr' : List V} {st' : St} {φ' : List Addr} {s' : Shared} {F : List Addr} (r : R P env ctx B fr st φ s) (hL : env.locals ∈ F) (hcells : ∀ y c, env.cells.lookup y = some c → c ∈ F) (p : Pre φ φ')
    (r' : R P cenv cctx (Mine.frz F s.heap B) fr' st' φ' s') (hF : ∀ b ∈ F, ∃ o, s.heap.get? b = some o) : R P env ctx B fr st' φ' s' := by
  obtain ⟨r1, hf⟩ := R.thw r.base hF r'
  refine ⟨r'.len, r'.objs, r'.nodup, r1.base, r1.off, ?_, ?_, ?_, (hf _ hL).1, r'.gens, r'.os⟩
  · obtain ⟨m, ⟨o, es, ep, h1, h2⟩, q⟩ := r.loc
    exact ⟨m, ⟨o, es, ep, (hf _ hL).2.trans h1, h2⟩, fun y i v a1 a2 a3 a4 => let ⟨c, b1, b2⟩ := q y i v a1 a2 a3 a4; ⟨c, b1, b2.mono p⟩⟩
  · intro y i hy hk
    obtain ⟨c, ov, h1, ⟨o, h2, h3⟩, h4⟩ := r.cel y i hy hk
    exact ⟨c, ov, h1, ⟨o, (hf _ (hcells y c h1)).2.trans h2, h3⟩, fun v a1 a2 => let ⟨cv, b1, b2⟩ := h4 v a1 a2; ⟨cv, b1, b2.mono p⟩⟩
  · intro y c hc
    obtain ⟨h1, h2, ov, o, h3, h4⟩ := r.celoff y c hc
    exact ⟨(hf _ (hcells y c hc)).1, h2, ov, o, (hf _ (hcells y c hc)).2.trans h3, h4⟩
end
end Mine

-- M9
/-! The comprehension's loop and the comprehension. -/
namespace Mine
open PySem PySem.W PyProof.Rows
set_option maxRecDepth 10000
section
variable {prog : Program} {P : Sta} {env : Env} {ctx : Ctx} {B B1 : Addr → Option Obj} {fr : List V} {st st1 st2 st3 : St} {φ : List Addr} {s : Shared} {A : Around} {E : Value → Shared → Prop} {k : Nat} {scope : Scope} {x : Str}

noncomputable def GT (prog : Program) (P : Sta) (k : Nat) (ifs : List PySem.Expr) (ctx : Ctx) (fr : List V) (st : St) (b : Bool) (st' : St) : Prop :=
  ∀ env B φ s A Q E, AOK k A → EnvOK P env ctx B → R P env ctx B fr st φ s → (∀ s' φ', R P env ctx B fr st' φ' s' → Pre φ φ' → Q b s') →
    wpAny (model prog P.w) A (forIn ifs true fun c r => if r = true then do let ok ← isTrue c env (eval c env); pure (ForInStep.yield ok) else pure (ForInStep.yield r)) Q E s
theorem GT_nil : GT prog P k [] ctx fr st true st := fun _ _ φ _ _ _ _ _ _ r h => wpAny_tests_nil (h _ φ r (Pre.refl _))
theorem GT_one {e : PySem.Expr} {b : Bool} (h : GB prog P k e ctx fr st b st1) : GT prog P k [e] ctx fr st b st1 := fun env B φ s A Q E hA he r hq => wpAny_tests_one (h env B φ s A Q E hA he r hq)

/-- what a comprehension's turn must do -/
noncomputable def StepOK (prog : Program) (P : Sta) (k : Nat) (ifs : List PySem.Expr) (elt : PySem.Expr) (cctx : Ctx) (fr : List V) (slot : Nat) (step : V → St → Option (Option V × St)) : Prop :=
  ∀ v st o st', step v st = some (o, st') → ∃ b st1, GT prog P k ifs cctx (fr.set slot v) st b st1 ∧ (b = true → ∃ y, o = some y ∧ GE prog P k elt cctx (fr.set slot v) st1 y st') ∧ (b = false → o = none ∧ st' = st1)

theorem push_ok (e : EnvOK P env ctx B) (r : R P env ctx B fr st φ s) {kk : Nat} {D : Addr} {y : V} {c : Value} {st' : St} {Q : Value → Shared → Prop} (hD : φ[kk]? = some D) (hp : pushV st kk y = some st') (vc : VR P.sc φ y c)
    (h : ∀ s', R P env ctx B fr st' φ s' → Q .none s') : wpAny (model prog P.w) A (call (.builtin "list.append") [.ref D, c]) Q E s := by
  unfold pushV at hp
  split at hp
  · rename_i xs hx
    split at hp
    · rename_i hl
      cases hp
      obtain ⟨_, vs, hpl, hv⟩ := r.listAt hD hx
      refine wpAny_list_append_plain hpl (fun h' hp' hs' => ?_) (by rw [List.size_toArray, hv.1]; exact lim_line (by omega))
      exact h _ (r.update e hD (fun b ob hne e => (hs'.2 b hne).trans e) ⟨by simp; omega, vs ++ [c], by simpa using hp', hv.snoc vc⟩)
    · cases hp
  · cases hp

theorem comp_loop {cenv : Env} {cctx : Ctx} {slot j kk : Nat} {o : O} {I D a : Addr} {step : V → St → Option (Option V × St)} {ifs : List PySem.Expr} {elt iter : PySem.Expr} {px pos : Pos} {stF : St} {φ0 : List Addr} {RR : Result → Shared → Prop}
    (hA : AOK k A) (e : EnvOK P cenv cctx B1) (hx : (x, slot) ∈ cctx.vars) (hxl : cenv.kindOf x = some .local) (hs : StepOK prog P k ifs elt cctx fr slot step)
    (hI1 : B1 I = none) (hI2 : I ≠ cenv.locals) (hI3 : ∀ y, cenv.cells.lookup y ≠ some I)
    (hR : ∀ s' φ', R P cenv cctx B1 (fr.set slot .undef) stF φ' s' → Pre φ0 φ' → RR (.ok .next) s') :
    ∀ n i st φ s, compI step j o kk n i st = some stF → R P cenv cctx B1 (fr.set slot .undef) st φ s → ItAt s.heap I a o i → φ[j]? = some a → φ[kk]? = some D → Pre φ0 φ → I ∉ φ →
    codeAny (model prog P.w) A (.compLoop (.ListComp elt [⟨.Name x px, iter, ifs, 0⟩] scope pos) 0 (.ref I) (.ref D) cenv) RR s := by
  intro n i st φ s hc r hI hj hk hp hIφ
  refine codeAny_compLoop_tests (fun n s => ∃ i st φ, compI step j o kk n i st = some stF ∧ R P cenv cctx B1 (fr.set slot .undef) st φ s ∧ ItAt s.heap I a o i ∧ φ[j]? = some a ∧ φ[kk]? = some D ∧ Pre φ0 φ ∧ I ∉ φ) ?_ n ⟨i, st, φ, hc, r, hI, hj, hk, hp, hIφ⟩
  clear hc r hI hj hk hp hIφ
  rintro n s ⟨i, st, φ, hc, r, hI, hj, hk, hp, hIφ⟩
  cases n with
  | zero => simp [compI] at hc
  | succ n =>
    unfold compI at hc
    split at hc
    · cases hc
    · rename_i hn
      cases hc
      exact next_none hA.handled r hj hI hn fun h' hext => hR _ φ (r.but (fun b o hb e => hext b o hb e) hIφ hI1 hI2 hI3) hp
    · rename_i v hn
      refine next_some r hj hI hn fun h' tk cv hI' hsb vr => ?_
      have r1 : R P cenv cctx B1 (fr.set slot .undef) st φ { s with heap := h', toks := tk } := r.but (fun b o hb e => (hsb.2 b hb).trans e) hIφ hI1 hI2 hI3
      have r2 := r1.frz (F := [I]) (fun b hb => by rw [List.mem_singleton.mp hb]; exact hIφ)
      have hb1 : ∀ b o, B1 b = some o → h'.get? b = some o := r1.base
      have e2 : EnvOK P cenv cctx (frz [I] h' B1) := e.frz hb1 (by simpa using fun q => hI2 q.symm)
      obtain ⟨oI, hoI⟩ := hI'.some
      have hF : ∀ b ∈ [I], ∃ o, h'.get? b = some o := fun b hb => ⟨oI, by rw [List.mem_singleton.mp hb]; exact hoI⟩
      have back : ∀ {st' φ' s'}, R P cenv cctx (frz [I] h' B1) (fr.set slot v) st' φ' s' → R P cenv cctx B1 (fr.set slot .undef) st' φ' s' ∧ ItAt s'.heap I a o (i + 1) ∧ I ∉ φ' := by
        intro st' φ' s' r'
        obtain ⟨q1, q2⟩ := R.thw hb1 hF r'
        have q3 := q1.forget slot
        rw [List.set_set] at q3
        obtain ⟨q4, q5⟩ := q2 I (List.mem_singleton.mpr rfl)
        exact ⟨q3, hI'.keep q5, q4⟩
      refine wpAny_assign_Name (store_local e2 r2 hx hxl vr fun s2 r3 => ?_)
      rw [List.set_set] at r3
      split at hc
      · cases hc
      · rename_i st' hst
        obtain ⟨b, st1, hg, ht, hf⟩ := hs v st _ _ hst
        refine hg cenv _ φ s2 A _ _ hA e2 r3 fun s3 φ3 r4 p4 => ?_
        cases b with
        | true => obtain ⟨y, hy, _⟩ := ht rfl; cases hy
        | false =>
          obtain ⟨_, rfl⟩ := hf rfl
          obtain ⟨q1, q2, q3⟩ := back r4
          exact ⟨n, Nat.lt_succ_self n, i + 1, _, φ3, hc, q1, q2, p4 _ _ hj, p4 _ _ hk, hp.trans p4, q3⟩
      · rename_i y st' hst
        obtain ⟨b, st1, hg, ht, hf⟩ := hs v st _ _ hst
        split at hc
        · cases hc
        · rename_i st'' hpush
          refine hg cenv _ φ s2 A _ _ hA e2 r3 fun s3 φ3 r4 p4 => ?_
          cases b with
          | false => obtain ⟨hy, _⟩ := hf rfl; cases hy
          | true =>
            obtain ⟨y', hy, hge⟩ := ht rfl
            cases hy
            refine hge cenv _ φ3 s3 A _ _ hA e2 r4 fun s4 φ4 cy r5 p5 vy => ?_
            refine push_ok e2 r5 (p5 _ _ (p4 _ _ hk)) hpush vy fun s5 r6 => ?_
            obtain ⟨q1, q2, q3⟩ := back r6
            exact ⟨n, Nat.lt_succ_self n, i + 1, _, φ4, hc, q1, q2, p5 _ _ (p4 _ _ hj), p5 _ _ (p4 _ _ hk), hp.trans (p4.trans p5), q3⟩

theorem cells_mem {env : Env} {y : Str} {c : Addr} (h : env.cells.lookup y = some c) : c ∈ env.locals :: env.cells.map (·.2) := List.mem_cons_of_mem _ (List.mem_map.mpr ⟨(y, c), lookup_mem h, rfl⟩)

theorem folded_ok {e : PySem.Expr} (h : ∀ es kk p, e ≠ .Set es kk p) (env : Env) (v : Value) : foldedSetIterable e env v = pure v := by
  cases e <;> first | rfl | exact absurd rfl (h _ _ _)

/-- the frame's cells that lookups reach: each has an object; entries that no lookup reaches are let be -/
noncomputable def cellAddrs (env : Env) : List Addr := (env.cells.filter fun p => env.cells.lookup p.1 == some p.2).map (·.2)
theorem cellAddrs_mem {env : Env} {y : Str} {c : Addr} (h : env.cells.lookup y = some c) : c ∈ cellAddrs env :=
  List.mem_map.mpr ⟨(y, c), List.mem_filter.mpr ⟨lookup_mem h, by simp [h]⟩, rfl⟩
theorem cellAddrs_of {env : Env} {c : Addr} (h : c ∈ cellAddrs env) : ∃ y, env.cells.lookup y = some c := by
  obtain ⟨p, hp, rfl⟩ := List.mem_map.mp h
  exact ⟨p.1, by simpa using (List.mem_filter.mp hp).2⟩

/-- the whole of a comprehension, the acc list handed to RR with the block's dict C still there -/
theorem comp_run {ifs : List PySem.Expr} {elt iter : PySem.Expr} {px pos : Pos} {stF : St} {step : V → St → Option (Option V × St)} {fuel j : Nat} {o : O} {use : Option (Value → Sem Unit)} {Q : Value → Shared → Prop}
    (hA : AOK k A) (e : EnvOK P env ctx B) (h : CompOK ctx scope x) (hset : ∀ es kk p, iter ≠ .Set es kk p) (hit : GE prog P k iter ctx fr st (.ref j) st1) (hj : st1[j]? = some o) (hs : StepOK prog P k ifs elt (ctx.inComp scope x) fr ctx.next step)
    (hc : compI step j o st1.length fuel 0 (st1 ++ [.lst []]) = some stF) (r : R P env ctx B fr st φ s)
    (hQ : ∀ s' φ' C D m, R P env ctx B fr stF φ' s' → Pre φ φ' → φ'[st1.length]? = some D → s'.heap.Ns C m → C ∉ φ' → B C = none → C ≠ env.locals → (∀ y, env.cells.lookup y ≠ some C) → compPost (model prog P.w) A E use Q (.ref D) C (.ok .next) s') :
    wpAny (model prog P.w) A (comprehension (.ListComp elt [⟨.Name x px, iter, ifs, 0⟩] scope pos) scope env (firstIterPos [⟨.Name x px, iter, ifs, 0⟩] pos) (newList []) (firstAsync [⟨.Name x px, iter, ifs, 0⟩]) (firstIter [⟨.Name x px, iter, ifs, 0⟩] env) use) Q E s := by
  have hfree : ∀ y, (y, NameKind.free) ∈ scope.names → ∃ c, env.cells.lookup y = some c := fun y hy => by
    obtain ⟨i, hi, hk⟩ := h.free y hy
    have hk' : env.kindOf y = some .cell ∨ env.kindOf y = some .free := by unfold Env.kindOf; rw [e.names]; exact hk
    obtain ⟨c, _, hc, _⟩ := r.cel y i hi hk'
    exact ⟨c, hc⟩
  have hiter : isIter o = true := by
    cases fuel with
    | zero => simp [compI] at hc
    | succ n =>
      unfold compI at hc
      refine nextItem_iter (st := st1 ++ [.lst []]) (j := j) (i := 0) fun q => ?_
      rw [q] at hc; cases hc
  refine wpAny_comprehension_free (g := ⟨.Name x px, iter, ifs, 0⟩) (gs := []) rfl (fun v => folded_ok hset env v) (closure_eq hfree) h.kind h.names ?_
  show wpAny _ _ (eval iter env) _ _ _
  refine hit env B φ s A _ E hA e r fun s1 φ1 cv r1 p1 vr => ?_
  cases vr with | ref _ a ha =>
  refine iter_ok r1 hj ha hiter fun h2 hk2 hI => ?_
  have hIlt : s1.heap.objs.size < h2.objs.size := by obtain ⟨oI, e⟩ := hI.some; exact Heap.lt_size e
  have r2 : R P env ctx B fr st1 φ1 { s1 with heap := h2 } := r1.grow hk2
  refine wpAny_newObj_type ?_ (by show ([] : List Value).toArray.size ≤ sizeLine; simp)
  have r3 := r2.newList (xs := []) (vs := []) .nil (by simp)
  have hI3 : ItAt (h2.push { cls := .type "list", data := .seq ([] : List Value).toArray }) s1.heap.objs.size a o 0 := hI.keep (by
    obtain ⟨oI, e⟩ := hI.some
    rw [e]; exact Heap.get?_push_of_some _ e)
  refine wpAny_newFunctionEnv (hk := h.kind) h.noCell (fun y hy => nomatch hy) fun h4 hns hsb => ?_
  have hk4 : ∀ b ob, (h2.push { cls := .type "list", data := .seq ([] : List Value).toArray }).get? b = some ob → h4.get? b = some ob := fun b ob e =>
    (hsb.2 b (Nat.ne_of_lt (Heap.lt_size e))).trans (Heap.get?_push_of_some _ e)
  -- the names
  generalize hCdef : (h2.push { cls := .type "list", data := .seq ([] : List Value).toArray }).objs.size = C at hns hsb
  have hC : C = h2.objs.size + 1 := by rw [← hCdef, Heap.size_push]
  generalize hIdef : s1.heap.objs.size = I at hIlt hI hI3
  have hD : ({ s1 with heap := h2 } : Shared).heap.objs.size = h2.objs.size := rfl
  have r4 : R P env ctx B fr (st1 ++ [.lst []]) (φ1 ++ [h2.objs.size]) { s1 with heap := h4, toks := s1.toks + 0 } := R.grow r3 hk4
  have hI4 : ItAt h4 I a o 0 := hI3.keep (by obtain ⟨oI, e⟩ := hI3.some; rw [e]; exact hk4 _ _ e)
  -- fresh addresses
  have freshC : ∀ (b : Addr) ob, (h2.push { cls := .type "list", data := .seq ([] : List Value).toArray }).get? b = some ob → b ≠ C := fun b ob e => by
    rw [← hCdef]; exact Nat.ne_of_lt (Heap.lt_size e)
  have hlt1 : ∀ b ∈ φ1, b < I := fun b hb => by rw [← hIdef]; exact r1.lt hb
  have hIφ : I ∉ φ1 ++ [h2.objs.size] := fun hm => by
    rcases List.mem_append.mp hm with hm | hm
    · exact Nat.lt_irrefl _ (hlt1 _ hm)
    · rw [List.mem_singleton.mp hm] at hIlt; exact Nat.lt_irrefl _ hIlt
  have hIB : B I = none := r1.Blt (by rw [hIdef]; exact Nat.le_refl _)
  have hIloc : I ≠ env.locals := fun q => by have := r1.loclt; rw [hIdef, ← q] at this; exact Nat.lt_irrefl _ this
  have hIcel : ∀ y, env.cells.lookup y ≠ some I := fun y q => by
    obtain ⟨_, _, ov, hov⟩ := r1.celoff y I q
    have := hov.lt; rw [hIdef] at this; exact Nat.lt_irrefl _ this
  have hCφ : C ∉ φ1 ++ [h2.objs.size] := fun hm => by
    rcases List.mem_append.mp hm with hm | hm
    · have := hlt1 _ hm; rw [hC] at this; exact absurd (Nat.lt_trans this hIlt) (by omega)
    · have := List.mem_singleton.mp hm; rw [hC] at this; omega
  have hCB : B C = none := r3.Blt (by rw [← hCdef]; exact Nat.le_refl _)
  have hCloc : C ≠ env.locals := fun q => by have := r3.loclt; rw [← q, ← hCdef] at this; exact Nat.lt_irrefl _ this
  have hCcel : ∀ y c, env.cells.lookup y = some c → c ≠ C := fun y c q => by
    obtain ⟨_, _, ov, o', e1, _⟩ := r3.celoff y c q
    exact freshC c _ e1
  have hCI : C ≠ I := by rw [hC]; intro q; rw [← q] at hIlt; omega
  let F := env.locals :: cellAddrs env
  have hFφ : ∀ b ∈ F, b ∉ φ1 ++ [h2.objs.size] := fun b hb => by
    rcases List.mem_cons.mp hb with rfl | hb
    · exact r4.locoff
    · obtain ⟨y, hy⟩ := cellAddrs_of hb
      exact (r4.celoff y b hy).1
  have hF4 : ∀ b ∈ F, ∃ ob, h4.get? b = some ob := fun b hb => by
    rcases List.mem_cons.mp hb with rfl | hb
    · obtain ⟨m, ⟨o, es, ep, e1, _⟩, _⟩ := r4.loc; exact ⟨o, e1⟩
    · obtain ⟨y, hy⟩ := cellAddrs_of hb
      obtain ⟨_, _, ov, o', e1, _⟩ := r4.celoff y b hy
      exact ⟨o', e1⟩
  have r5 := r4.frz (F := F) hFφ
  have hCF : C ∉ F := fun hm => by
    rcases List.mem_cons.mp hm with q | hm
    · exact hCloc q
    · obtain ⟨y, hy⟩ := cellAddrs_of hm
      exact hCcel y C hy rfl
  have hIF : I ∉ F := fun hm => by
    rcases List.mem_cons.mp hm with q | hm
    · exact hIloc q
    · obtain ⟨y, hy⟩ := cellAddrs_of hm
      exact hIcel y hy
  have ec : EnvOK P (compEnvC scope (clOf env.cells scope.names []) C env) (ctx.inComp scope x) (frz F h4 B) := comp_env e h (by unfold frz; rw [if_neg hCF]; exact hCB) fun b o hb => by
    unfold frz
    split
    · exact r4.kept e b o hb
    · exact e.hB b o hb
  have r6 := R.toComp (B1 := frz F h4 B) e h r5 hns hCφ hCcel
  have hcell : ∀ y, (compEnvC scope (clOf env.cells scope.names []) C env).cells.lookup y ≠ some I := fun y q =>
    hIcel y ((clOf_lookup scope.names [] hfree (fun x c hc => by simp at hc)).1 y I q)
  have hxl : (compEnvC scope (clOf env.cells scope.names []) C env).kindOf x = some .local := by
    show (relabel scope env).names.lookup x = _
    rw [comp_names e, comp_kind, h.hx]; rfl
  have loop := comp_loop (RR := compPost (model prog P.w) A E use Q (.ref h2.objs.size) C) (px := px) (pos := pos) (scope := scope) (iter := iter) (D := h2.objs.size) (φ0 := φ1 ++ [h2.objs.size]) hA ec (List.mem_cons_self ..) hxl hs (by unfold frz; rw [if_neg hIF]; exact hIB) (fun q => hCI q.symm) hcell
    (fun s' φ' r' p' => by
      have rb := R.fromComp r4 (F := F) (List.mem_cons_self ..) (fun y c hc => List.mem_cons_of_mem _ (cellAddrs_mem hc)) p' r' hF4
      obtain ⟨m, hm, _⟩ := r'.loc
      exact hQ s' φ' C h2.objs.size m rb (p1.trans ((Pre.push _ _).trans p')) (p' _ _ (by rw [← r1.len]; simp)) hm r'.locoff hCB hCloc (fun y q => hCcel y C q rfl))
    fuel 0 (st1 ++ [.lst []]) (φ1 ++ [h2.objs.size]) _ hc r6 hI4 (Pre.push _ _ _ _ ha) (by rw [← r1.len]; simp) (Pre.refl _) hIφ
  exact codeAny_compStart_list loop (iter_again hI4 loop)

theorem GE_comp {ifs : List PySem.Expr} {elt iter : PySem.Expr} {px pos : Pos} {stF : St} {step : V → St → Option (Option V × St)} {fuel j : Nat} {o : O}
    (h : CompOK ctx scope x) (hset : ∀ es kk p, iter ≠ .Set es kk p) (hit : GE prog P k iter ctx fr st (.ref j) st1) (hj : st1[j]? = some o) (hs : StepOK prog P k ifs elt (ctx.inComp scope x) fr ctx.next step)
    (hc : compI step j o st1.length fuel 0 (st1 ++ [.lst []]) = some stF) : GE prog P k (.ListComp elt [⟨.Name x px, iter, ifs, 0⟩] scope pos) ctx fr st (.ref st1.length) stF := fun env B φ s A Q E hA e r hq => by
  rw [eval_ListComp]
  refine comp_run hA e h hset hit hj hs hc r fun s' φ' C D m r' p' hD hm c1 c2 c3 c4 => ⟨m, hm, fun h' hsb => ?_⟩
  exact hq _ φ' _ (r'.but (fun b ob hb e => (hsb.2 b hb).trans e) c1 c2 c3 c4) p' (.ref _ _ hD)
end
end Mine

-- M10
/-! All expressions. -/
namespace Mine
open PySem PySem.W PyProof.Rows
set_option maxRecDepth 10000
section
variable {prog : Program} {P : Sta} {env : Env} {ctx : Ctx} {B B1 : Addr → Option Obj} {fr : List V} {st st1 st2 st3 : St} {φ : List Addr} {s : Shared} {A : Around} {E : Value → Shared → Prop} {k : Nat} {scope : Scope} {x : Str}

theorem AOK.down (h : AOK (k + 1) A) : AOK k A := ⟨h.handled, by have := h.depth; omega, by have := h.units; omega⟩
theorem AOK.create (h : AOK (k + 1) A) {f : Value} {args : List Value} (hf : ∃ a, f = .ref a) : AOK k (A.under (.builtin "type.__call__" ⟨f :: args, []⟩)) := by
  obtain ⟨a, rfl⟩ := hf
  have h1 := h.depth
  have h2 := h.units
  have e1 : (Code.builtin "type.__call__" ⟨.ref a :: args, []⟩).weight ≤ 5 := by
    unfold Code.weight
    have : (Code.builtin "type.__call__" ⟨.ref a :: args, []⟩).frames = 0 := by rfl
    rw [this]
    have : (Code.builtin "type.__call__" ⟨.ref a :: args, []⟩).isCaller = false := by rfl
    rw [this]
    (repeat' split) <;> simp_all
  have e2 : (Code.builtin "type.__call__" ⟨.ref a :: args, []⟩).cUnits ≤ 5 := by
    have : (Code.builtin "type.__call__" ⟨.ref a :: args, []⟩).frames = 0 := by rfl
    show 1 + 3 * (Code.builtin "type.__call__" ⟨.ref a :: args, []⟩).frames ≤ 5
    rw [this]; decide
  exact ⟨h.handled, by show A.depth + _ + 10 * k < 600; omega, by show A.units + _ + 100 * k < 2000; omega⟩

/-- the text's own calls -/
noncomputable def CallOK (prog : Program) (P : Sta) (k : Nat) (C : Nat → List V → St → Option (V × St)) : Prop :=
  ∀ f args st v st', C f args st = some (v, st') → ∀ env ctx B fr φ s A cs (Q : Value → Shared → Prop) (E : Value → Shared → Prop), AOK k A → EnvOK P env ctx B → R P env ctx B fr st φ s → VRs P.sc φ args cs → K3 P env ctx B fr st' φ v Q →
    codeAny (model prog P.w) A (.call (.ref (P.fa f)) ⟨cs, []⟩) (fun r s' => match r with | .ok (.ret v) => Q v s' | .ok _ => False | .error e => E e s') s

theorem GE_call (S : StaOK prog P) {C : Nat → List V → St → Option (V × St)} (hC : CallOK prog P k C) {f : Str} {px pos : Pos} {e : PySem.Expr} {es : List PySem.Expr} {vs : List V} {v : V} {j : Nat} (hx : ctx.glob f = true) (hj : idx theGlb.fns f = some (j + 1)) (hs : (e :: es).all noStar = true)
    (hl : GL prog P (k + 1) (e :: es) ctx fr st vs st1) (hc : C (j + 1) vs st1 = some (v, st2)) : GE prog P (k + 1) (.Call (.Name f px) (e :: es) [] pos) ctx fr st v st2 := by
  refine GE_callN (S.keepF j) hs (fun env B φ s A Q E he r h => name_g S he r hx (S.gfns f j hj) h) hl ?_
  intro env B φ s A Q E cs hA he r vc h
  exact wpAny_call (hC (j + 1) vs st1 v st2 hc env ctx B fr φ s A cs Q E hA.down he r vc h)

theorem GE_new (S : StaOK prog P) {C : Nat → List V → St → Option (V × St)} (hC : CallOK prog P k C) {f : Str} {px pos : Pos} {e : PySem.Expr} {es : List PySem.Expr} {vs : List V} (hx : ctx.glob f = true) (hf : f = theGlb.cls) (hs : (e :: es).all noStar = true)
    (hl : GL prog P (k + 1) (e :: es) ctx fr st vs st1) (hc : C 0 (.ref (st1.length + 1) :: vs) (st1 ++ [.dct [], .inst st1.length]) = some (.none, st2)) :
    GE prog P (k + 1) (.Call (.Name f px) (e :: es) [] pos) ctx fr st (.ref (st1.length + 1)) st2 := by
  refine GE_callN S.keepC hs (fun env B φ s A Q E he r h => name_g S he r hx (hf ▸ S.gcls) h) hl ?_
  intro env B φ s A Q E cs hA he r vc h
  refine S.mkI A s cs Q E (r.kept he) fun h' hk hd hi => ?_
  have r1 : R P env ctx B fr (st1 ++ [.dct []]) (φ ++ [s.heap.objs.size]) { s with heap := h' } := r.alloc hk rfl (Nat.le_refl _) ⟨[], 0, hd, .nil, by simp⟩
  have r2 : R P env ctx B fr ((st1 ++ [.dct []]) ++ [.inst st1.length]) ((φ ++ [s.heap.objs.size]) ++ [s.heap.objs.size + 1]) { s with heap := h' } := by
    have hlt : s.heap.objs.size + 1 < h'.objs.size := Heap.lt_size hi
    have hob : OR P ((φ ++ [s.heap.objs.size]) ++ [s.heap.objs.size + 1]) h' (s.heap.objs.size + 1) (.inst st1.length) := ⟨s.heap.objs.size, by rw [← r.len, List.append_assoc, List.getElem?_append_right (Nat.le_refl _)]; simp, hi⟩
    -- the second object lay in h' already: laid beside the first
    have hnew : s.heap.objs.size + 1 ∉ φ ++ [s.heap.objs.size] := fun hm => by
      rcases List.mem_append.mp hm with hm | hm
      · exact absurd (show (s.heap.objs.size + 1 : Nat) < s.heap.objs.size from r.lt hm) (by omega)
      · exact absurd (show (s.heap.objs.size + 1 : Nat) = s.heap.objs.size from List.mem_singleton.mp hm) (by omega)
    refine ⟨by simp [r.len], fun kk o' e => ?_, fun i j b hi hj => ?_, r1.base, fun b hb => ?_, ?_, ?_, ?_, ?_, r1.gens, r1.os⟩
    · by_cases hl : kk < (st1 ++ [O.dct []]).length
      · rw [List.getElem?_append_left hl] at e
        obtain ⟨b, hb, q⟩ := r1.objs kk o' e
        exact ⟨b, Pre.push _ _ kk b hb, q.keep (Pre.push _ _) fun _ h => h⟩
      · rw [List.getElem?_append_right (by omega)] at e
        have hk0 : kk - (st1 ++ [O.dct []]).length = 0 := by
          cases hq : kk - (st1 ++ [O.dct []]).length with
          | zero => rfl
          | succ n => rw [hq] at e; simp at e
        rw [hk0] at e; simp at e; subst e
        refine ⟨s.heap.objs.size + 1, ?_, hob⟩
        have hl2 := r1.len
        rw [List.getElem?_append_right (by omega), hl2, hk0]; rfl
    · have key : ∀ i, ((φ ++ [s.heap.objs.size]) ++ [s.heap.objs.size + 1])[i]? = some b → ((φ ++ [s.heap.objs.size])[i]? = some b ∨ (i = (φ ++ [s.heap.objs.size]).length ∧ b = s.heap.objs.size + 1)) := fun i hi => by
        by_cases hl : i < (φ ++ [s.heap.objs.size]).length
        · rw [List.getElem?_append_left hl] at hi; exact .inl hi
        · rw [List.getElem?_append_right (by omega)] at hi
          cases hq : i - (φ ++ [s.heap.objs.size]).length with
          | zero => rw [hq] at hi; simp at hi; exact .inr ⟨by omega, hi.symm⟩
          | succ n => rw [hq] at hi; simp at hi
      rcases key i hi with h1 | ⟨h1, h1'⟩ <;> rcases key j hj with h2 | ⟨h2, h2'⟩
      · exact r1.nodup i j b h1 h2
      · exact absurd (List.mem_iff_getElem?.mpr ⟨i, h2' ▸ h1⟩) hnew
      · exact absurd (List.mem_iff_getElem?.mpr ⟨j, h1' ▸ h2⟩) hnew
      · omega
    · rcases List.mem_append.mp hb with h | h
      · exact r1.off b h
      · rw [List.mem_singleton.mp h]; exact r.Blt (Nat.le_succ _)
    · obtain ⟨m, hm, q⟩ := r1.loc
      exact ⟨m, hm, fun x i v a1 a2 a3 a4 => let ⟨c, b1, b2⟩ := q x i v a1 a2 a3 a4; ⟨c, b1, b2.mono (Pre.push _ _)⟩⟩
    · intro x i hx hc
      obtain ⟨c, ov, h1, h2, h3⟩ := r1.cel x i hx hc
      exact ⟨c, ov, h1, h2, fun v a3 a4 => let ⟨cv, b1, b2⟩ := h3 v a3 a4; ⟨cv, b1, b2.mono (Pre.push _ _)⟩⟩
    · intro x c hc
      obtain ⟨h1, h2, h3⟩ := r1.celoff x c hc
      obtain ⟨_, _, ov, hov⟩ := r.celoff x c hc
      refine ⟨fun hm => ?_, h2, h3⟩
      rcases List.mem_append.mp hm with h | h
      · exact h1 h
      · rw [List.mem_singleton.mp h] at hov; exact absurd (show (s.heap.objs.size + 1 : Nat) < s.heap.objs.size from hov.lt) (by omega)
    · intro hm
      rcases List.mem_append.mp hm with h | h
      · exact r1.locoff h
      · have := r.loclt; rw [List.mem_singleton.mp h] at this; exact absurd (show (s.heap.objs.size + 1 : Nat) < s.heap.objs.size from this) (by omega)
  have e2 : (st1 ++ [O.dct []]) ++ [O.inst st1.length] = st1 ++ [.dct [], .inst st1.length] := by simp
  rw [e2] at r2
  have p2 : Pre φ ((φ ++ [s.heap.objs.size]) ++ [s.heap.objs.size + 1]) := (Pre.push _ _).trans (Pre.push _ _)
  have hself : VR P.sc ((φ ++ [s.heap.objs.size]) ++ [s.heap.objs.size + 1]) (.ref (st1.length + 1)) (.ref (s.heap.objs.size + 1)) := .ref _ _ (by rw [← r.len]; simp)
  have := hC 0 _ _ _ _ hc env ctx B fr _ _ (A.under (.builtin "type.__call__" ⟨.ref P.C :: cs, []⟩)) (.ref (s.heap.objs.size + 1) :: cs) (fun c s' => c = .none ∧ Q (.ref (s.heap.objs.size + 1)) s') E (hA.create ⟨_, rfl⟩) he r2 (.cons hself (vc.mono p2)) (fun s3 φ3 c r3 p3 v3 => by
    cases v3
    exact ⟨rfl, h s3 φ3 _ r3 (p2.trans p3) (hself.mono p3)⟩)
  refine codeAny_mono this fun r s' hr => ?_
  unfold InitBack
  cases r with
  | error e => exact hr
  | ok f => cases f with
    | ret v => obtain ⟨rfl, hq⟩ := hr; exact ⟨rfl, hq⟩
    | _ => exact hr.elim
end
end Mine

-- M11
/-! The soundness of the expressions' evaluator. -/
namespace Mine
open PySem PySem.W PyProof.Rows
set_option maxRecDepth 10000
section
variable {prog : Program} {P : Sta} {k : Nat} {c : Cfg}

noncomputable def GA (prog : Program) (P : Sta) (k : Nat) (op : BoolOp) (es : List PySem.Expr) (ctx : Ctx) (fr : List V) (st : St) (b : Bool) (st' : St) : Prop :=
  ∀ env B φ s A Q E, AOK k A → EnvOK P env ctx B → R P env ctx B fr st φ s → (∀ s' φ', R P env ctx B fr st' φ' s' → Pre φ φ' → Q b s') → wpAny (model prog P.w) A (allTrue op es env) Q E s

theorem idx_get {l : List Str} {x : Str} {i : Nat} (h : idx l x = some i) : l[i]? = some x := by
  unfold idx at h
  obtain ⟨hlt, h1, _⟩ := List.findIdx?_eq_some_iff_getElem.mp h
  rw [List.getElem?_eq_getElem hlt]
  simpa using h1

theorem slst_len {es : List PySem.Expr} {ctx : Ctx} {n : Nat} : ∀ {fr : List V} {st st' : St} {vs : List V}, evL c (es.map (cE theGlb ctx n)) fr st = some (vs, st') → vs.length = es.length := by
  induction es with
  | nil => intro fr st st' vs h; simp only [List.map_nil, evlq_nil, evlq_cons] at h; cases h; rfl
  | cons e r ih =>
    intro fr st st' vs h
    simp only [List.map_cons, evlq_nil, evlq_cons, Option.bind_eq_some_iff, Option.map_eq_some_iff] at h
    obtain ⟨p, _, q, hq, h⟩ := h
    cases h
    simp [ih hq]

structure Sound (prog : Program) (P : Sta) (k : Nat) (c : Cfg) (n : Nat) : Prop where
  e : ∀ e ctx fr st v st', ev c (cE theGlb ctx n e) fr st = some (v, st') → GE prog P (k + 1) e ctx fr st v st'
  b : ∀ e ctx fr st v st', ev c (cB theGlb ctx n e) fr st = some (v, st') → ∃ b, v = .bool b ∧ GB prog P (k + 1) e ctx fr st b st'
  bs : ∀ es ctx fr st v st', ev c (cBs theGlb ctx n es) fr st = some (v, st') → ∃ b, v = .bool b ∧ GT prog P (k + 1) es ctx fr st b st'
  an : ∀ es ctx fr st v st', ev c (cAnd theGlb ctx n es) fr st = some (v, st') → ∃ b, v = .bool b ∧ GA prog P (k + 1) .And es ctx fr st b st'
  or : ∀ es ctx fr st v st', ev c (cOr theGlb ctx n es) fr st = some (v, st') → ∃ b, v = .bool b ∧ GA prog P (k + 1) .Or es ctx fr st b st'
  o : ∀ o ctx fr st v st', ev c (cO theGlb ctx n o) fr st = some (v, st') → GO prog P (k + 1) o ctx fr st v st'

theorem Sound.l {n : Nat} (h : Sound prog P k c n) : ∀ {es : List PySem.Expr} {ctx fr st vs st'}, es.all noStar = true → evL c (es.map (cE theGlb ctx n)) fr st = some (vs, st') → GL prog P (k + 1) es ctx fr st vs st'
  | [], _, _, _, _, _, _, e => by simp only [List.map_nil, evlq_nil, evlq_cons] at e; cases e; exact GL_nil
  | x :: r, _, _, _, _, _, hs, e => by
    simp only [List.map_cons, evlq_nil, evlq_cons, Option.bind_eq_some_iff, Option.map_eq_some_iff] at e
    simp only [List.all_cons, Bool.and_eq_true] at hs
    obtain ⟨p, hp, q, hq, e⟩ := e
    cases e
    exact GL_cons hs.1 (h.e _ _ _ _ _ _ hp) (h.l hs.2 hq)

theorem cE_call (ctx : Ctx) (n : Nat) (f : Str) (px pos : Pos) (args : List PySem.Expr) : cE theGlb ctx (n + 1) (.Call (.Name f px) args [] pos) = if ctx.glob f && args.all noStar && !args.isEmpty then
        (if f == ("len" : Str) then (match args with | [a] => .len (cE theGlb ctx n a) | _ => .fail)
        else if f == ("range" : Str) then (match args with | [a] => .range1 (cE theGlb ctx n a) | [a, b, d] => .range3 (cE theGlb ctx n a) (cE theGlb ctx n b) (cE theGlb ctx n d) | _ => .fail)
        else if f == ("list" : Str) then (match args with | [a] => .listOf (cE theGlb ctx n a) | _ => .fail)
        else if f == ("min" : Str) then (match args with | [a] => .min (cE theGlb ctx n a) | _ => .fail)
        else if f == ("int" : Str) then (match args with | [a] => .intOf (cE theGlb ctx n a) | _ => .fail)
        else if f == theGlb.cls then .new (args.map (cE theGlb ctx n))
        else match idx theGlb.fns f with
          | some (k + 1) => .call (k + 1) (args.map (cE theGlb ctx n))
          | _ => .fail)
      else .fail := rfl

section
variable (S : StaOK prog P) (hC : CallOK prog P k c.C) (hscr : c.scr = P.scr) (hgt : c.gt = theTups)
include S hC hscr hgt

theorem sound_call {n : Nat} (ih : Sound prog P k c n) {f : Str} {px pos : Pos} {args : List PySem.Expr} {ctx : Ctx} {fr : List V} {st st' : St} {v : V}
    (h : ev c (cE theGlb ctx (n + 1) (.Call (.Name f px) args [] pos)) fr st = some (v, st')) : GE prog P (k + 1) (.Call (.Name f px) args [] pos) ctx fr st v st' := by
  rw [cE_call] at h
  split at h
  · rename_i hcond
    simp only [Bool.and_eq_true, Bool.not_eq_true'] at hcond
    obtain ⟨⟨hg, hs⟩, hne⟩ := hcond
    split at h
    · rename_i hf
      split at h
      · rename_i a
        simp only [evq_fail, evq_int, evq_bool, evq_none, evq_var, evq_glob, evq_gtup, evq_bin, evq_un, evq_cmp, evq_ite, evq_notB, evq_andB, evq_orB, evq_truthy, evq_andV, evq_orV, evq_lst, evq_tup, evq_comp, evq_len, evq_range1, evq_range3, evq_listOf, evq_min, evq_intOf, evq_call, evq_new, evq_append, evq_extend, evq_attr, evq_sub, evq_slice, Option.bind_eq_some_iff, Option.map_eq_some_iff] at h
        obtain ⟨p, hp, m, hm, h⟩ := h
        cases h
        exact GE_len S hg (by simpa using hf) (by simpa using hs) (ih.e _ _ _ _ _ _ hp) hm
      · simp [evq_fail] at h
    · split at h
      · rename_i hf
        split at h
        · rename_i a
          simp only [evq_fail, evq_int, evq_bool, evq_none, evq_var, evq_glob, evq_gtup, evq_bin, evq_un, evq_cmp, evq_ite, evq_notB, evq_andB, evq_orB, evq_truthy, evq_andV, evq_orV, evq_lst, evq_tup, evq_comp, evq_len, evq_range1, evq_range3, evq_listOf, evq_min, evq_intOf, evq_call, evq_new, evq_append, evq_extend, evq_attr, evq_sub, evq_slice, Option.bind_eq_some_iff] at h
          obtain ⟨⟨w, st1⟩, hp, h⟩ := h
          cases w <;> simp only at h <;> try (cases h)
          split at h
          · rename_i hb
            cases h
            exact GE_range1 S hg (by simpa using hf) (by simpa using hs) (ih.e _ _ _ _ _ _ hp) hb
          · cases h
        · rename_i a b d
          simp only [evq_fail, evq_int, evq_bool, evq_none, evq_var, evq_glob, evq_gtup, evq_bin, evq_un, evq_cmp, evq_ite, evq_notB, evq_andB, evq_orB, evq_truthy, evq_andV, evq_orV, evq_lst, evq_tup, evq_comp, evq_len, evq_range1, evq_range3, evq_listOf, evq_min, evq_intOf, evq_call, evq_new, evq_append, evq_extend, evq_attr, evq_sub, evq_slice, Option.bind_eq_some_iff] at h
          obtain ⟨⟨w1, st1⟩, hp1, ⟨w2, st2⟩, hp2, ⟨w3, st3⟩, hp3, h⟩ := h
          cases w1 <;> cases w2 <;> cases w3 <;> simp only at h <;> try (cases h)
          split at h
          · rename_i hb
            cases h
            exact GE_range3 S hg (by simpa using hf) hs (ih.e _ _ _ _ _ _ hp1) (ih.e _ _ _ _ _ _ hp2) (ih.e _ _ _ _ _ _ hp3) hb.1 hb.2.1 hb.2.2.1 hb.2.2.2
          · cases h
        · simp [evq_fail] at h
      · split at h
        · rename_i hf
          split at h
          · rename_i a
            simp only [evq_fail, evq_int, evq_bool, evq_none, evq_var, evq_glob, evq_gtup, evq_bin, evq_un, evq_cmp, evq_ite, evq_notB, evq_andB, evq_orB, evq_truthy, evq_andV, evq_orV, evq_lst, evq_tup, evq_comp, evq_len, evq_range1, evq_range3, evq_listOf, evq_min, evq_intOf, evq_call, evq_new, evq_append, evq_extend, evq_attr, evq_sub, evq_slice, Option.bind_eq_some_iff] at h
            obtain ⟨⟨w, st1⟩, hp, h⟩ := h
            cases w <;> simp only at h <;> try (cases h)
            split at h
            · rename_i hk
              cases h
              exact GE_listOf S hg (by simpa using hf) (by simpa using hs) (ih.e _ _ _ _ _ _ hp) hk
            · cases h
          · simp [evq_fail] at h
        · split at h
          · rename_i hf
            split at h
            · rename_i a
              simp only [evq_fail, evq_int, evq_bool, evq_none, evq_var, evq_glob, evq_gtup, evq_bin, evq_un, evq_cmp, evq_ite, evq_notB, evq_andB, evq_orB, evq_truthy, evq_andV, evq_orV, evq_lst, evq_tup, evq_comp, evq_len, evq_range1, evq_range3, evq_listOf, evq_min, evq_intOf, evq_call, evq_new, evq_append, evq_extend, evq_attr, evq_sub, evq_slice, Option.bind_eq_some_iff] at h
              obtain ⟨⟨w, st1⟩, hp, h⟩ := h
              cases w <;> simp only at h <;> try (cases h)
              split at h
              · rename_i hk
                simp only [Option.map_eq_some_iff] at h
                obtain ⟨i, hi, h⟩ := h
                cases h
                exact GE_min S hg (by simpa using hf) (by simpa using hs) (ih.e _ _ _ _ _ _ hp) hk hi
              · cases h
            · simp [evq_fail] at h
          · split at h
            · rename_i hf
              split at h
              · rename_i a
                simp only [evq_fail, evq_int, evq_bool, evq_none, evq_var, evq_glob, evq_gtup, evq_bin, evq_un, evq_cmp, evq_ite, evq_notB, evq_andB, evq_orB, evq_truthy, evq_andV, evq_orV, evq_lst, evq_tup, evq_comp, evq_len, evq_range1, evq_range3, evq_listOf, evq_min, evq_intOf, evq_call, evq_new, evq_append, evq_extend, evq_attr, evq_sub, evq_slice, Option.bind_eq_some_iff] at h
                obtain ⟨⟨w, st1⟩, hp, h⟩ := h
                cases w <;> simp only at h <;> try (cases h)
                exact GE_intOf S hg (by simpa using hf) (by simpa using hs) (ih.e _ _ _ _ _ _ hp)
              · simp [evq_fail] at h
            · split at h
              · rename_i hf
                simp only [evq_fail, evq_int, evq_bool, evq_none, evq_var, evq_glob, evq_gtup, evq_bin, evq_un, evq_cmp, evq_ite, evq_notB, evq_andB, evq_orB, evq_truthy, evq_andV, evq_orV, evq_lst, evq_tup, evq_comp, evq_len, evq_range1, evq_range3, evq_listOf, evq_min, evq_intOf, evq_call, evq_new, evq_append, evq_extend, evq_attr, evq_sub, evq_slice, Option.bind_eq_some_iff] at h
                obtain ⟨⟨vs, st1⟩, hp, ⟨w, st2⟩, hq, h⟩ := h
                cases w <;> simp only at h <;> try (cases h)
                cases args with
                | nil => simp at hne
                | cons a r => exact GE_new S hC hg (by simpa using hf) hs (ih.l hs hp) hq
              · split at h
                · rename_i j hj
                  simp only [evq_fail, evq_int, evq_bool, evq_none, evq_var, evq_glob, evq_gtup, evq_bin, evq_un, evq_cmp, evq_ite, evq_notB, evq_andB, evq_orB, evq_truthy, evq_andV, evq_orV, evq_lst, evq_tup, evq_comp, evq_len, evq_range1, evq_range3, evq_listOf, evq_min, evq_intOf, evq_call, evq_new, evq_append, evq_extend, evq_attr, evq_sub, evq_slice, Option.bind_eq_some_iff] at h
                  obtain ⟨⟨vs, st1⟩, hp, h⟩ := h
                  cases args with
                  | nil => simp at hne
                  | cons a r => exact GE_call S hC hg hj hs (ih.l hs hp) h
                · simp [evq_fail] at h
  · simp [evq_fail] at h
end
end
end Mine

-- M12
/-! The soundness of the expressions' evaluator, by induction on the compile's fuel. -/
namespace Mine
open PySem PySem.W PyProof.Rows
set_option maxRecDepth 10000
section
variable {prog : Program} {P : Sta} {k : Nat} {c : Cfg}

theorem ev_fail {fr : List V} {st : St} {p : V × St} (h : ev c .fail fr st = some p) : False := by simp [evq_fail] at h
theorem cmp1_eq {ops : List CmpOp} {cs : List PySem.Expr} {op : CmpOp} {r : PySem.Expr} (h : cmp1 ops cs = some (op, r)) : ops = [op] ∧ cs = [r] := by
  unfold cmp1 at h; split at h
  · cases h; exact ⟨rfl, rfl⟩
  · cases h
theorem two_eq {es : List PySem.Expr} {a b : PySem.Expr} (h : two es = some (a, b)) : es = [a, b] := by
  unfold two at h; split at h
  · cases h; rfl
  · cases h
theorem comp1_eq {gs : List Comprehension} {x : Str} {iter : PySem.Expr} {ifs : List PySem.Expr} (h : comp1 gs = some (x, iter, ifs)) : ∃ px, gs = [⟨.Name x px, iter, ifs, 0⟩] := by
  unfold comp1 at h; split at h
  · cases h; exact ⟨_, rfl⟩
  · cases h
theorem sliceOf_eq {i : PySem.Expr} {lo hi : Option PySem.Expr} (h : sliceOf i = some (lo, hi)) : ∃ p, i = .Slice lo hi none p := by
  unfold sliceOf at h; split at h
  · cases h; exact ⟨_, rfl⟩
  · cases h
theorem nmOf_eq {i : PySem.Expr} {t : Str} (h : nmOf i = some t) : ∃ p, i = .Name t p := by
  unfold nmOf at h; split at h
  · cases h; exact ⟨_, rfl⟩
  · cases h

theorem GA_and_nil {ctx : Ctx} {fr : List V} {st : St} : GA prog P k .And [] ctx fr st true st := fun _ _ φ _ _ _ _ _ _ r h => wpAny_allTrue_And_nil (h _ φ r (Pre.refl _))
theorem GA_or_nil {ctx : Ctx} {fr : List V} {st : St} : GA prog P k .Or [] ctx fr st false st := fun _ _ φ _ _ _ _ _ _ r h => wpAny_allTrue_Or_nil (h _ φ r (Pre.refl _))
theorem GA_and_cons {e : PySem.Expr} {es : List PySem.Expr} {ctx : Ctx} {fr : List V} {st st1 st2 : St} {b b' : Bool} (h1 : GB prog P k e ctx fr st b st1) (h2 : b = true → GA prog P k .And es ctx fr st1 b' st2) (h3 : b = false → b' = false ∧ st2 = st1) :
    GA prog P k .And (e :: es) ctx fr st b' st2 := fun env B φ s A Q E hA he r h =>
  wpAny_allTrue_And_cons (h1 env B φ s A _ E hA he r fun s1 φ1 r1 p1 => by
    cases b with
    | true => exact h2 rfl env B φ1 s1 A _ E hA he r1 fun s2 φ2 r2 p2 => h _ _ r2 (p1.trans p2)
    | false => obtain ⟨rfl, rfl⟩ := h3 rfl; exact h _ _ r1 p1)
theorem GA_or_cons {e : PySem.Expr} {es : List PySem.Expr} {ctx : Ctx} {fr : List V} {st st1 st2 : St} {b b' : Bool} (h1 : GB prog P k e ctx fr st b st1) (h2 : b = false → GA prog P k .Or es ctx fr st1 b' st2) (h3 : b = true → b' = true ∧ st2 = st1) :
    GA prog P k .Or (e :: es) ctx fr st b' st2 := fun env B φ s A Q E hA he r h =>
  wpAny_allTrue_Or_cons (h1 env B φ s A _ E hA he r fun s1 φ1 r1 p1 => by
    cases b with
    | false => exact h2 rfl env B φ1 s1 A _ E hA he r1 fun s2 φ2 r2 p2 => h _ _ r2 (p1.trans p2)
    | true => obtain ⟨rfl, rfl⟩ := h3 rfl; exact h _ _ r1 p1)
theorem GB_bool {op : BoolOp} {es : List PySem.Expr} {pos : Pos} {ctx : Ctx} {fr : List V} {st st1 : St} {b : Bool} (h : GA prog P k op es ctx fr st b st1) : GB prog P k (.BoolOp op es pos) ctx fr st b st1 := fun env B φ s A Q E hA he r hq =>
  wpAny_isTrue_BoolOp (h env B φ s A Q E hA he r hq)

section
variable (S : StaOK prog P) (hC : CallOK prog P k c.C) (hscr : c.scr = P.scr) (hgt : c.gt = theTups)
include S hC hscr hgt

theorem sound_zero : Sound prog P k c 0 := by
  refine ⟨?_, ?_, ?_, ?_, ?_, ?_⟩ <;> intro _ _ _ _ _ _ h
  · exact (ev_fail (show ev c .fail _ _ = _ from h)).elim
  · exact (ev_fail (show ev c .fail _ _ = _ from h)).elim
  · exact (ev_fail (show ev c .fail _ _ = _ from h)).elim
  · exact (ev_fail (show ev c .fail _ _ = _ from h)).elim
  · exact (ev_fail (show ev c .fail _ _ = _ from h)).elim
  · exact (ev_fail (show ev c .fail _ _ = _ from h)).elim

theorem sound_cmp {n : Nat} (ih : Sound prog P k c n) {l : PySem.Expr} {ops : List CmpOp} {cs : List PySem.Expr} {ctx : Ctx} {fr : List V} {st st' : St} {v : V}
    (h : ev c (match cmp1 ops cs with | some (op, r) => if behindInMarks op r then .fail else .cmp op (cE theGlb ctx n l) (cE theGlb ctx n r) | none => .fail) fr st = some (v, st')) :
    ∃ op r a b st1 cc, ops = [op] ∧ cs = [r] ∧ behindInMarks op r = false ∧ v = .bool cc ∧ GE prog P (k + 1) l ctx fr st a st1 ∧ GE prog P (k + 1) r ctx fr st1 b st' ∧ cmpV op a b st' = some cc := by
  split at h
  · rename_i op r hc
    obtain ⟨rfl, rfl⟩ := cmp1_eq hc
    split at h
    · exact (ev_fail h).elim
    · rename_i hb
      simp only [evq_fail, evq_int, evq_bool, evq_none, evq_var, evq_glob, evq_gtup, evq_bin, evq_un, evq_cmp, evq_ite, evq_notB, evq_andB, evq_orB, evq_truthy, evq_andV, evq_orV, evq_lst, evq_tup, evq_comp, evq_len, evq_range1, evq_range3, evq_listOf, evq_min, evq_intOf, evq_call, evq_new, evq_append, evq_extend, evq_attr, evq_sub, evq_slice, Option.bind_eq_some_iff, Option.map_eq_some_iff] at h
      obtain ⟨p, hp, q, hq, cc, hcc, h⟩ := h
      cases h
      exact ⟨op, r, p.1, q.1, p.2, cc, rfl, rfl, by simpa using hb, rfl, ih.e _ _ _ _ _ _ hp, ih.e _ _ _ _ _ _ hq, hcc⟩
  · exact (ev_fail h).elim

theorem sound_sub {n : Nat} (ih : Sound prog P k c n) {a i : PySem.Expr} {pos : Pos} {ctx : Ctx} {fr : List V} {st st' : St} {v : V}
    (h : ev c (.sub (cE theGlb ctx n a) (cE theGlb ctx n i)) fr st = some (v, st')) : GE prog P (k + 1) (.Subscript a i pos) ctx fr st v st' := by
  simp only [evq_fail, evq_int, evq_bool, evq_none, evq_var, evq_glob, evq_gtup, evq_bin, evq_un, evq_cmp, evq_ite, evq_notB, evq_andB, evq_orB, evq_truthy, evq_andV, evq_orV, evq_lst, evq_tup, evq_comp, evq_len, evq_range1, evq_range3, evq_listOf, evq_min, evq_intOf, evq_call, evq_new, evq_append, evq_extend, evq_attr, evq_sub, evq_slice, Option.bind_eq_some_iff, Option.map_eq_some_iff] at h
  obtain ⟨p, hp, q, hq, w, hw, h⟩ := h
  cases h
  exact GE_sub (ih.e _ _ _ _ _ _ hp) (ih.e _ _ _ _ _ _ hq) hw

theorem sound_e {n : Nat} (ih : Sound prog P k c n) : ∀ e ctx fr st v st', ev c (cE theGlb ctx (n + 1) e) fr st = some (v, st') → GE prog P (k + 1) e ctx fr st v st' := by
  intro e ctx fr st v st' h
  cases e with
  | Constant cv kk pos =>
    cases cv with
    | int i => have h' : ev c (.int i) fr st = some (v, st') := h; simp only [evq_fail, evq_int, evq_bool, evq_none, evq_var, evq_glob, evq_gtup, evq_bin, evq_un, evq_cmp, evq_ite, evq_notB, evq_andB, evq_orB, evq_truthy, evq_andV, evq_orV, evq_lst, evq_tup, evq_comp, evq_len, evq_range1, evq_range3, evq_listOf, evq_min, evq_intOf, evq_call, evq_new, evq_append, evq_extend, evq_attr, evq_sub, evq_slice] at h'; cases h'; exact GE_int
    | bool i => have h' : ev c (.bool i) fr st = some (v, st') := h; simp only [evq_fail, evq_int, evq_bool, evq_none, evq_var, evq_glob, evq_gtup, evq_bin, evq_un, evq_cmp, evq_ite, evq_notB, evq_andB, evq_orB, evq_truthy, evq_andV, evq_orV, evq_lst, evq_tup, evq_comp, evq_len, evq_range1, evq_range3, evq_listOf, evq_min, evq_intOf, evq_call, evq_new, evq_append, evq_extend, evq_attr, evq_sub, evq_slice] at h'; cases h'; exact GE_bool
    | none => have h' : ev c .none fr st = some (v, st') := h; simp only [evq_fail, evq_int, evq_bool, evq_none, evq_var, evq_glob, evq_gtup, evq_bin, evq_un, evq_cmp, evq_ite, evq_notB, evq_andB, evq_orB, evq_truthy, evq_andV, evq_orV, evq_lst, evq_tup, evq_comp, evq_len, evq_range1, evq_range3, evq_listOf, evq_min, evq_intOf, evq_call, evq_new, evq_append, evq_extend, evq_attr, evq_sub, evq_slice] at h'; cases h'; exact GE_none
    | _ => exact (ev_fail (show ev c .fail _ _ = _ from h)).elim
  | Name x pos =>
    have h' : ev c (match ctx.vars.lookup x with
      | some i => .var i
      | none => if ctx.glob x then (match theGlb.gints.lookup x with | some i => .glob i | none => .fail) else .fail) fr st = some (v, st') := h
    split at h'
    · rename_i i hi
      simp only [evq_fail, evq_int, evq_bool, evq_none, evq_var, evq_glob, evq_gtup, evq_bin, evq_un, evq_cmp, evq_ite, evq_notB, evq_andB, evq_orB, evq_truthy, evq_andV, evq_orV, evq_lst, evq_tup, evq_comp, evq_len, evq_range1, evq_range3, evq_listOf, evq_min, evq_intOf, evq_call, evq_new, evq_append, evq_extend, evq_attr, evq_sub, evq_slice, Option.map_eq_some_iff] at h'
      obtain ⟨w, hw, h'⟩ := h'
      cases h'
      exact GE_var (lookup_mem hi) hw
    · split at h'
      · rename_i hg
        split at h'
        · rename_i i hi
          simp only [evq_fail, evq_int, evq_bool, evq_none, evq_var, evq_glob, evq_gtup, evq_bin, evq_un, evq_cmp, evq_ite, evq_notB, evq_andB, evq_orB, evq_truthy, evq_andV, evq_orV, evq_lst, evq_tup, evq_comp, evq_len, evq_range1, evq_range3, evq_listOf, evq_min, evq_intOf, evq_call, evq_new, evq_append, evq_extend, evq_attr, evq_sub, evq_slice] at h'; cases h'
          exact GE_glob S hg hi
        · exact (ev_fail h').elim
      · exact (ev_fail h').elim
  | BinOp l op r pos =>
    have h' : ev c (.bin op (cE theGlb ctx n l) (cE theGlb ctx n r)) fr st = some (v, st') := h
    simp only [evq_fail, evq_int, evq_bool, evq_none, evq_var, evq_glob, evq_gtup, evq_bin, evq_un, evq_cmp, evq_ite, evq_notB, evq_andB, evq_orB, evq_truthy, evq_andV, evq_orV, evq_lst, evq_tup, evq_comp, evq_len, evq_range1, evq_range3, evq_listOf, evq_min, evq_intOf, evq_call, evq_new, evq_append, evq_extend, evq_attr, evq_sub, evq_slice, Option.bind_eq_some_iff] at h'
    obtain ⟨p, hp, q, hq, h'⟩ := h'
    exact GE_bin (ih.e _ _ _ _ _ _ hp) (ih.e _ _ _ _ _ _ hq) h'
  | UnaryOp op x pos =>
    have h' : ev c (.un op (cE theGlb ctx n x)) fr st = some (v, st') := h
    simp only [evq_fail, evq_int, evq_bool, evq_none, evq_var, evq_glob, evq_gtup, evq_bin, evq_un, evq_cmp, evq_ite, evq_notB, evq_andB, evq_orB, evq_truthy, evq_andV, evq_orV, evq_lst, evq_tup, evq_comp, evq_len, evq_range1, evq_range3, evq_listOf, evq_min, evq_intOf, evq_call, evq_new, evq_append, evq_extend, evq_attr, evq_sub, evq_slice, Option.bind_eq_some_iff, Option.map_eq_some_iff] at h'
    obtain ⟨p, hp, w, hw, h'⟩ := h'
    cases h'
    exact GE_un (ih.e _ _ _ _ _ _ hp) hw
  | Compare l ops cs pos =>
    obtain ⟨op, r, a, b, st1, cc, rfl, rfl, hb, rfl, h1, h2, h3⟩ := sound_cmp S hC hscr hgt ih (ops := ops) (cs := cs) h
    exact GE_cmp hb h1 h2 h3
  | IfExp t a b pos =>
    have h' : ev c (.ite (cB theGlb ctx n t) (cE theGlb ctx n a) (cE theGlb ctx n b)) fr st = some (v, st') := h
    simp only [evq_fail, evq_int, evq_bool, evq_none, evq_var, evq_glob, evq_gtup, evq_bin, evq_un, evq_cmp, evq_ite, evq_notB, evq_andB, evq_orB, evq_truthy, evq_andV, evq_orV, evq_lst, evq_tup, evq_comp, evq_len, evq_range1, evq_range3, evq_listOf, evq_min, evq_intOf, evq_call, evq_new, evq_append, evq_extend, evq_attr, evq_sub, evq_slice, Option.bind_eq_some_iff] at h'
    obtain ⟨⟨w, st1⟩, hp, h'⟩ := h'
    obtain ⟨bb, rfl, hg⟩ := ih.b _ _ _ _ _ _ hp
    cases bb with
    | true => exact GE_ite hg (fun _ => ih.e _ _ _ _ _ _ h') (fun q => by cases q)
    | false => exact GE_ite hg (fun q => by cases q) (fun _ => ih.e _ _ _ _ _ _ h')
  | BoolOp op es pos =>
    cases op with
    | And =>
      have h' : ev c (match two es with
        | some (a, b) => .andV (cE theGlb ctx n a) (cE theGlb ctx n b)
        | none => .fail) fr st = some (v, st') := h
      split at h'
      · rename_i a b hab
        rw [two_eq hab]
        simp only [evq_fail, evq_int, evq_bool, evq_none, evq_var, evq_glob, evq_gtup, evq_bin, evq_un, evq_cmp, evq_ite, evq_notB, evq_andB, evq_orB, evq_truthy, evq_andV, evq_orV, evq_lst, evq_tup, evq_comp, evq_len, evq_range1, evq_range3, evq_listOf, evq_min, evq_intOf, evq_call, evq_new, evq_append, evq_extend, evq_attr, evq_sub, evq_slice, Option.bind_eq_some_iff] at h'
        obtain ⟨p, hp, r, hr, h'⟩ := h'
        cases r with
        | true => exact GE_and (ih.e _ _ _ _ _ _ hp) hr (fun _ => ih.e _ _ _ _ _ _ h') (fun q => by cases q)
        | false => simp only [Bool.false_eq_true, if_false] at h'; cases h'; exact GE_and (ih.e _ _ _ _ _ _ hp) hr (fun q => by cases q) (fun _ => ⟨rfl, rfl⟩)
      · exact (ev_fail h').elim
    | Or =>
      have h' : ev c (match two es with
        | some (a, b) => .orV (cE theGlb ctx n a) (cE theGlb ctx n b)
        | none => .fail) fr st = some (v, st') := h
      split at h'
      · rename_i a b hab
        rw [two_eq hab]
        simp only [evq_fail, evq_int, evq_bool, evq_none, evq_var, evq_glob, evq_gtup, evq_bin, evq_un, evq_cmp, evq_ite, evq_notB, evq_andB, evq_orB, evq_truthy, evq_andV, evq_orV, evq_lst, evq_tup, evq_comp, evq_len, evq_range1, evq_range3, evq_listOf, evq_min, evq_intOf, evq_call, evq_new, evq_append, evq_extend, evq_attr, evq_sub, evq_slice, Option.bind_eq_some_iff] at h'
        obtain ⟨p, hp, r, hr, h'⟩ := h'
        cases r with
        | false => simp only [Bool.false_eq_true, if_false] at h'; exact GE_or (ih.e _ _ _ _ _ _ hp) hr (fun _ => ih.e _ _ _ _ _ _ h') (fun q => by cases q)
        | true => simp only [if_true] at h'; cases h'; exact GE_or (ih.e _ _ _ _ _ _ hp) hr (fun q => by cases q) (fun _ => ⟨rfl, rfl⟩)
      · exact (ev_fail h').elim
  | List es pos =>
    have h' : ev c (if es.length < 100 && es.all noStar then .lst (es.map (cE theGlb ctx n)) else .fail) fr st = some (v, st') := h
    split at h'
    · rename_i hc
      simp only [Bool.and_eq_true, decide_eq_true_eq] at hc
      simp only [evq_fail, evq_int, evq_bool, evq_none, evq_var, evq_glob, evq_gtup, evq_bin, evq_un, evq_cmp, evq_ite, evq_notB, evq_andB, evq_orB, evq_truthy, evq_andV, evq_orV, evq_lst, evq_tup, evq_comp, evq_len, evq_range1, evq_range3, evq_listOf, evq_min, evq_intOf, evq_call, evq_new, evq_append, evq_extend, evq_attr, evq_sub, evq_slice, Option.map_eq_some_iff] at h'
      obtain ⟨p, hp, h'⟩ := h'
      cases h'
      exact GE_lst (ih.l hc.2 hp) (by rw [slst_len hp]; show _ ≤ 1000000; omega)
    · exact (ev_fail h').elim
  | Tuple es kk pos =>
    have h' : ev c (if es.length < 100 && es.all noStar then .tup (es.map (cE theGlb ctx n)) else .fail) fr st = some (v, st') := h
    split at h'
    · rename_i hc
      simp only [Bool.and_eq_true, decide_eq_true_eq] at hc
      simp only [evq_fail, evq_int, evq_bool, evq_none, evq_var, evq_glob, evq_gtup, evq_bin, evq_un, evq_cmp, evq_ite, evq_notB, evq_andB, evq_orB, evq_truthy, evq_andV, evq_orV, evq_lst, evq_tup, evq_comp, evq_len, evq_range1, evq_range3, evq_listOf, evq_min, evq_intOf, evq_call, evq_new, evq_append, evq_extend, evq_attr, evq_sub, evq_slice, Option.map_eq_some_iff] at h'
      obtain ⟨p, hp, h'⟩ := h'
      cases h'
      exact GE_tup (ih.l hc.2 hp) (by rw [slst_len hp]; show _ ≤ 1000000; omega)
    · exact (ev_fail h').elim
  | ListComp elt gs scope pos =>
    have h' : ev c (match comp1 gs with
      | some (x, iter, ifs) => if compOk ctx scope x then .comp ctx.next (cE theGlb ctx n iter) (cBs theGlb (ctx.inComp scope x) n ifs) (cE theGlb (ctx.inComp scope x) n elt) else .fail
      | none => .fail) fr st = some (v, st') := h
    split at h'
    · rename_i x iter ifs hg
      obtain ⟨px, rfl⟩ := comp1_eq hg
      split at h'
      · rename_i hok
        simp only [evq_fail, evq_int, evq_bool, evq_none, evq_var, evq_glob, evq_gtup, evq_bin, evq_un, evq_cmp, evq_ite, evq_notB, evq_andB, evq_orB, evq_truthy, evq_andV, evq_orV, evq_lst, evq_tup, evq_comp, evq_len, evq_range1, evq_range3, evq_listOf, evq_min, evq_intOf, evq_call, evq_new, evq_append, evq_extend, evq_attr, evq_sub, evq_slice, Option.bind_eq_some_iff, Option.map_eq_some_iff] at h'
        obtain ⟨⟨w, st1⟩, hp, ⟨j, o⟩, hsrc, stF, hcomp, h'⟩ := h'
        cases h'
        cases w with
        | ref kk =>
          simp only [srcOf, Option.map_eq_some_iff] at hsrc
          obtain ⟨o', ho, hsrc⟩ := hsrc
          cases hsrc
          refine GE_comp (CompOK.of hok) (fun es kk p q => ?_) (ih.e _ _ _ _ _ _ hp) ho ?_ hcomp
          · subst q
            cases n with
            | zero => exact (ev_fail (show ev c .fail _ _ = _ from hp)).elim
            | succ n => exact (ev_fail (show ev c .fail _ _ = _ from hp)).elim
          · intro u s0 o s1 hs
            simp only [Option.bind_eq_some_iff] at hs
            obtain ⟨⟨w, s2⟩, hw, hs⟩ := hs
            obtain ⟨b, rfl, hgt'⟩ := ih.bs _ _ _ _ _ _ hw
            refine ⟨b, s2, hgt', fun hb => ?_, fun hb => ?_⟩
            · subst hb
              simp only [Option.map_eq_some_iff] at hs
              obtain ⟨r, hr, hs⟩ := hs
              cases hs
              exact ⟨_, rfl, ih.e _ _ _ _ _ _ hr⟩
            · subst hb
              simp only at hs
              cases hs
              exact ⟨rfl, rfl⟩
        | _ => simp [srcOf] at hsrc
      · exact (ev_fail h').elim
    · exact (ev_fail h').elim
  | Call f args kws pos =>
    cases f with
    | Name f px =>
      cases kws with
      | nil => exact sound_call S hC hscr hgt ih h
      | cons kw r => exact (ev_fail (show ev c .fail _ _ = _ from h)).elim
    | Attribute o m apos =>
      cases kws with
      | cons kw r => exact (ev_fail (show ev c .fail _ _ = _ from h)).elim
      | nil =>
        rcases args with _ | ⟨a, _ | ⟨a2, r⟩⟩
        · exact (ev_fail (show ev c .fail _ _ = _ from h)).elim
        · have h' : ev c (if (apos.endLine == pos.line) && okBase o && noStar a then
            (if m == ("append" : Str) then .append (cE theGlb ctx n o) (cE theGlb ctx n a) else if m == ("extend" : Str) then .extend (cE theGlb ctx n o) (cE theGlb ctx n a) else .fail) else .fail) fr st = some (v, st') := h
          split at h'
          · rename_i hc
            simp only [Bool.and_eq_true] at hc
            obtain ⟨⟨h1, h2⟩, h3⟩ := hc
            split at h'
            · rename_i hm
              simp only [evq_fail, evq_int, evq_bool, evq_none, evq_var, evq_glob, evq_gtup, evq_bin, evq_un, evq_cmp, evq_ite, evq_notB, evq_andB, evq_orB, evq_truthy, evq_andV, evq_orV, evq_lst, evq_tup, evq_comp, evq_len, evq_range1, evq_range3, evq_listOf, evq_min, evq_intOf, evq_call, evq_new, evq_append, evq_extend, evq_attr, evq_sub, evq_slice, Option.bind_eq_some_iff] at h'
              obtain ⟨⟨w, st1⟩, hp, h'⟩ := h'
              cases w <;> simp only at h' <;> try (cases h')
              split at h'
              · rename_i hl
                simp only [Option.bind_eq_some_iff, Option.map_eq_some_iff] at h'
                obtain ⟨q, hq, st3, h4, h'⟩ := h'
                cases h'
                exact GE_append (by simpa using hm) h2 h3 h1 (ih.e _ _ _ _ _ _ hp) hl (ih.e _ _ _ _ _ _ hq) h4
              · cases h'
            · split at h'
              · rename_i hm
                simp only [evq_fail, evq_int, evq_bool, evq_none, evq_var, evq_glob, evq_gtup, evq_bin, evq_un, evq_cmp, evq_ite, evq_notB, evq_andB, evq_orB, evq_truthy, evq_andV, evq_orV, evq_lst, evq_tup, evq_comp, evq_len, evq_range1, evq_range3, evq_listOf, evq_min, evq_intOf, evq_call, evq_new, evq_append, evq_extend, evq_attr, evq_sub, evq_slice, Option.bind_eq_some_iff] at h'
                obtain ⟨⟨w, st1⟩, hp, h'⟩ := h'
                cases w <;> simp only at h' <;> try (cases h')
                split at h'
                · rename_i hl
                  simp only [Option.bind_eq_some_iff] at h'
                  obtain ⟨⟨w2, st2⟩, hq, h'⟩ := h'
                  cases w2 <;> simp only at h' <;> try (cases h')
                  split at h'
                  · rename_i xs ys hx hy
                    split at h'
                    · rename_i hcc
                      cases h'
                      exact GE_extend (by simpa using hm) h2 h3 h1 (ih.e _ _ _ _ _ _ hp) hl (ih.e _ _ _ _ _ _ hq) hx hy hcc.2
                    · cases h'
                  · cases h'
                · cases h'
              · exact (ev_fail h').elim
          · exact (ev_fail h').elim
        · exact (ev_fail (show ev c .fail _ _ = _ from h)).elim
    | _ => exact (ev_fail (show ev c .fail _ _ = _ from h)).elim
  | Attribute o m pos =>
    have h' : ev c (if okBase o then (match idx theGlb.attrs m with
      | some k => .attr (cE theGlb ctx n o) k
      | none => .fail) else .fail) fr st = some (v, st') := h
    split at h'
    · rename_i hb
      split at h'
      · rename_i j hj
        simp only [evq_fail, evq_int, evq_bool, evq_none, evq_var, evq_glob, evq_gtup, evq_bin, evq_un, evq_cmp, evq_ite, evq_notB, evq_andB, evq_orB, evq_truthy, evq_andV, evq_orV, evq_lst, evq_tup, evq_comp, evq_len, evq_range1, evq_range3, evq_listOf, evq_min, evq_intOf, evq_call, evq_new, evq_append, evq_extend, evq_attr, evq_sub, evq_slice, Option.bind_eq_some_iff, Option.map_eq_some_iff] at h'
        obtain ⟨p, hp, w, hw, h'⟩ := h'
        cases h'
        exact GE_attr S hb (idx_get hj) (ih.e _ _ _ _ _ _ hp) hw
      · exact (ev_fail h').elim
    · exact (ev_fail h').elim
  | Subscript a i pos =>
    have h' : ev c (match sliceOf i with
      | some (lo, hi) => .slice (cE theGlb ctx n a) (cO theGlb ctx n lo) (cO theGlb ctx n hi)
      | none => match nmOf a with
        | some t => if ctx.glob t && (idx theGlb.tups t).isSome then .gtup ((idx theGlb.tups t).getD 0) (cE theGlb ctx n i) else .sub (cE theGlb ctx n a) (cE theGlb ctx n i)
        | none => .sub (cE theGlb ctx n a) (cE theGlb ctx n i)) fr st = some (v, st') := h
    split at h'
    · rename_i lo hi hsl
      obtain ⟨ps, rfl⟩ := sliceOf_eq hsl
      simp only [evq_fail, evq_int, evq_bool, evq_none, evq_var, evq_glob, evq_gtup, evq_bin, evq_un, evq_cmp, evq_ite, evq_notB, evq_andB, evq_orB, evq_truthy, evq_andV, evq_orV, evq_lst, evq_tup, evq_comp, evq_len, evq_range1, evq_range3, evq_listOf, evq_min, evq_intOf, evq_call, evq_new, evq_append, evq_extend, evq_attr, evq_sub, evq_slice, Option.bind_eq_some_iff] at h'
      obtain ⟨⟨w, st1⟩, hp, ⟨l, st2⟩, hq, ⟨u, st3⟩, hr, h'⟩ := h'
      cases w <;> simp only at h' <;> try (cases h')
      · split at h'
        · rename_i xs hx
          simp only [Option.map_eq_some_iff] at h'
          obtain ⟨ys, hy, h'⟩ := h'
          cases h'
          exact GE_slice S hscr (ih.e _ _ _ _ _ _ hp) (ih.o _ _ _ _ _ _ hq) (ih.o _ _ _ _ _ _ hr) (.inr ⟨_, rfl, hx⟩) hy
        · cases h'
      · simp only [Option.map_eq_some_iff] at h'
        obtain ⟨ys, hy, h'⟩ := h'
        cases h'
        exact GE_slice S hscr (ih.e _ _ _ _ _ _ hp) (ih.o _ _ _ _ _ _ hq) (ih.o _ _ _ _ _ _ hr) (.inl ⟨rfl, rfl⟩) hy
    · split at h'
      · rename_i t hn
        split at h'
        · rename_i hc
          obtain ⟨px, rfl⟩ := nmOf_eq hn
          simp only [Bool.and_eq_true] at hc
          obtain ⟨tt, htt⟩ := Option.isSome_iff_exists.mp hc.2
          rw [htt] at h'
          simp only [evq_fail, evq_int, evq_bool, evq_none, evq_var, evq_glob, evq_gtup, evq_bin, evq_un, evq_cmp, evq_ite, evq_notB, evq_andB, evq_orB, evq_truthy, evq_andV, evq_orV, evq_lst, evq_tup, evq_comp, evq_len, evq_range1, evq_range3, evq_listOf, evq_min, evq_intOf, evq_call, evq_new, evq_append, evq_extend, evq_attr, evq_sub, evq_slice, Option.bind_eq_some_iff] at h'
          obtain ⟨⟨w, st1⟩, hp, h'⟩ := h'
          cases w <;> simp only at h' <;> try (cases h')
          split at h'
          · rename_i hj
            simp only [Option.getD_some, Option.map_eq_some_iff, Option.bind_eq_some_iff] at h'
            obtain ⟨y, ⟨xs, hxs, hy⟩, h'⟩ := h'
            cases h'
            rw [hgt] at hxs
            exact GE_gtup S hc.1 htt hxs (ih.e _ _ _ _ _ _ hp) hj.1 hj.2 hy
          · cases h'
        · exact sound_sub S hC hscr hgt ih h'
      · exact sound_sub S hC hscr hgt ih h'
  | _ => exact (ev_fail (show ev c .fail _ _ = _ from h)).elim

theorem sound_val {n : Nat} (ih : Sound prog P k c n) {e : PySem.Expr} (hx : ∀ (env : Env) (whole : Sem Value), isTrue e env whole = (do let v ← whole; standAt e.pos; holding [v] (truthy v))) {ctx : Ctx} {fr : List V} {st st' : St} {v : V}
    (h : ev c (.truthy (cE theGlb ctx n e)) fr st = some (v, st')) : ∃ b, v = .bool b ∧ GB prog P (k + 1) e ctx fr st b st' := by
  simp only [evq_fail, evq_int, evq_bool, evq_none, evq_var, evq_glob, evq_gtup, evq_bin, evq_un, evq_cmp, evq_ite, evq_notB, evq_andB, evq_orB, evq_truthy, evq_andV, evq_orV, evq_lst, evq_tup, evq_comp, evq_len, evq_range1, evq_range3, evq_listOf, evq_min, evq_intOf, evq_call, evq_new, evq_append, evq_extend, evq_attr, evq_sub, evq_slice, Option.bind_eq_some_iff, Option.map_eq_some_iff] at h
  obtain ⟨p, hp, b, hb, h⟩ := h
  cases h
  exact ⟨b, rfl, GB_val hx (ih.e _ _ _ _ _ _ hp) hb⟩

theorem sound_succ {n : Nat} (ih : Sound prog P k c n) : Sound prog P k c (n + 1) where
  e := sound_e S hC hscr hgt ih
  b := by
    intro e ctx fr st v st' h
    cases e with
    | UnaryOp op x pos =>
      cases op with
      | Not =>
        have h' : ev c (.notB (cB theGlb ctx n x)) fr st = some (v, st') := h
        simp only [evq_fail, evq_int, evq_bool, evq_none, evq_var, evq_glob, evq_gtup, evq_bin, evq_un, evq_cmp, evq_ite, evq_notB, evq_andB, evq_orB, evq_truthy, evq_andV, evq_orV, evq_lst, evq_tup, evq_comp, evq_len, evq_range1, evq_range3, evq_listOf, evq_min, evq_intOf, evq_call, evq_new, evq_append, evq_extend, evq_attr, evq_sub, evq_slice, Option.bind_eq_some_iff] at h'
        obtain ⟨⟨w, st1⟩, hp, h'⟩ := h'
        obtain ⟨b, rfl, hg⟩ := ih.b _ _ _ _ _ _ hp
        cases h'
        exact ⟨_, rfl, GB_not hg⟩
      | _ => exact sound_val S hC hscr hgt ih (fun _ _ => rfl) h
    | BoolOp op es pos =>
      cases op with
      | And => obtain ⟨b, rfl, hg⟩ := ih.an es ctx fr st v st' h; exact ⟨b, rfl, GB_bool hg⟩
      | Or => obtain ⟨b, rfl, hg⟩ := ih.or es ctx fr st v st' h; exact ⟨b, rfl, GB_bool hg⟩
    | IfExp t a b pos => exact (ev_fail (show ev c .fail _ _ = _ from h)).elim
    | Compare l ops cs pos =>
      obtain ⟨op, r, a, b, st1, cc, rfl, rfl, hb, rfl, h1, h2, h3⟩ := sound_cmp S hC hscr hgt ih (ops := ops) (cs := cs) h
      exact ⟨cc, rfl, GB_cmp hb h1 h2 h3⟩
    | _ => exact sound_val S hC hscr hgt ih (fun _ _ => rfl) h
  bs := by
    intro es ctx fr st v st' h
    rcases es with _ | ⟨e, _ | ⟨e2, r⟩⟩
    · have h' : ev c (.bool true) fr st = some (v, st') := h
      simp only [evq_fail, evq_int, evq_bool, evq_none, evq_var, evq_glob, evq_gtup, evq_bin, evq_un, evq_cmp, evq_ite, evq_notB, evq_andB, evq_orB, evq_truthy, evq_andV, evq_orV, evq_lst, evq_tup, evq_comp, evq_len, evq_range1, evq_range3, evq_listOf, evq_min, evq_intOf, evq_call, evq_new, evq_append, evq_extend, evq_attr, evq_sub, evq_slice] at h'; cases h'
      exact ⟨true, rfl, GT_nil⟩
    · obtain ⟨b, rfl, hg⟩ := ih.b e ctx fr st v st' h
      exact ⟨b, rfl, GT_one hg⟩
    · exact (ev_fail (show ev c .fail _ _ = _ from h)).elim
  an := by
    intro es ctx fr st v st' h
    rcases es with _ | ⟨e, _ | ⟨e2, r⟩⟩
    · have h' : ev c (.bool true) fr st = some (v, st') := h
      simp only [evq_fail, evq_int, evq_bool, evq_none, evq_var, evq_glob, evq_gtup, evq_bin, evq_un, evq_cmp, evq_ite, evq_notB, evq_andB, evq_orB, evq_truthy, evq_andV, evq_orV, evq_lst, evq_tup, evq_comp, evq_len, evq_range1, evq_range3, evq_listOf, evq_min, evq_intOf, evq_call, evq_new, evq_append, evq_extend, evq_attr, evq_sub, evq_slice] at h'; cases h'
      exact ⟨true, rfl, GA_and_nil⟩
    · obtain ⟨b, rfl, hg⟩ := ih.b e ctx fr st v st' h
      refine ⟨b, rfl, GA_and_cons hg (fun hb => ?_) (fun hb => ⟨hb, rfl⟩)⟩
      subst hb; exact GA_and_nil
    · have h' : ev c (.andB (cB theGlb ctx n e) (cAnd theGlb ctx n (e2 :: r))) fr st = some (v, st') := h
      simp only [evq_fail, evq_int, evq_bool, evq_none, evq_var, evq_glob, evq_gtup, evq_bin, evq_un, evq_cmp, evq_ite, evq_notB, evq_andB, evq_orB, evq_truthy, evq_andV, evq_orV, evq_lst, evq_tup, evq_comp, evq_len, evq_range1, evq_range3, evq_listOf, evq_min, evq_intOf, evq_call, evq_new, evq_append, evq_extend, evq_attr, evq_sub, evq_slice, Option.bind_eq_some_iff] at h'
      obtain ⟨⟨w, st1⟩, hp, h'⟩ := h'
      obtain ⟨b, rfl, hg⟩ := ih.b _ _ _ _ _ _ hp
      cases b with
      | true =>
        obtain ⟨b', rfl, hg'⟩ := ih.an _ _ _ _ _ _ h'
        exact ⟨b', rfl, GA_and_cons hg (fun _ => hg') (fun q => by cases q)⟩
      | false => cases h'; exact ⟨false, rfl, GA_and_cons hg (fun q => by cases q) (fun _ => ⟨rfl, rfl⟩)⟩
  or := by
    intro es ctx fr st v st' h
    rcases es with _ | ⟨e, _ | ⟨e2, r⟩⟩
    · have h' : ev c (.bool false) fr st = some (v, st') := h
      simp only [evq_fail, evq_int, evq_bool, evq_none, evq_var, evq_glob, evq_gtup, evq_bin, evq_un, evq_cmp, evq_ite, evq_notB, evq_andB, evq_orB, evq_truthy, evq_andV, evq_orV, evq_lst, evq_tup, evq_comp, evq_len, evq_range1, evq_range3, evq_listOf, evq_min, evq_intOf, evq_call, evq_new, evq_append, evq_extend, evq_attr, evq_sub, evq_slice] at h'; cases h'
      exact ⟨false, rfl, GA_or_nil⟩
    · obtain ⟨b, rfl, hg⟩ := ih.b e ctx fr st v st' h
      refine ⟨b, rfl, GA_or_cons hg (fun hb => ?_) (fun hb => ⟨hb, rfl⟩)⟩
      subst hb; exact GA_or_nil
    · have h' : ev c (.orB (cB theGlb ctx n e) (cOr theGlb ctx n (e2 :: r))) fr st = some (v, st') := h
      simp only [evq_fail, evq_int, evq_bool, evq_none, evq_var, evq_glob, evq_gtup, evq_bin, evq_un, evq_cmp, evq_ite, evq_notB, evq_andB, evq_orB, evq_truthy, evq_andV, evq_orV, evq_lst, evq_tup, evq_comp, evq_len, evq_range1, evq_range3, evq_listOf, evq_min, evq_intOf, evq_call, evq_new, evq_append, evq_extend, evq_attr, evq_sub, evq_slice, Option.bind_eq_some_iff] at h'
      obtain ⟨⟨w, st1⟩, hp, h'⟩ := h'
      obtain ⟨b, rfl, hg⟩ := ih.b _ _ _ _ _ _ hp
      cases b with
      | false =>
        obtain ⟨b', rfl, hg'⟩ := ih.or _ _ _ _ _ _ h'
        exact ⟨b', rfl, GA_or_cons hg (fun _ => hg') (fun q => by cases q)⟩
      | true => cases h'; exact ⟨true, rfl, GA_or_cons hg (fun q => by cases q) (fun _ => ⟨rfl, rfl⟩)⟩
  o := by
    intro o ctx fr st v st' h
    cases o with
    | none =>
      have h' : ev c .none fr st = some (v, st') := h
      simp only [evq_fail, evq_int, evq_bool, evq_none, evq_var, evq_glob, evq_gtup, evq_bin, evq_un, evq_cmp, evq_ite, evq_notB, evq_andB, evq_orB, evq_truthy, evq_andV, evq_orV, evq_lst, evq_tup, evq_comp, evq_len, evq_range1, evq_range3, evq_listOf, evq_min, evq_intOf, evq_call, evq_new, evq_append, evq_extend, evq_attr, evq_sub, evq_slice] at h'; cases h'
      exact GO_none
    | some e => exact GO_some (ih.e e ctx fr st v st' h)

theorem sound : ∀ n, Sound prog P k c n
  | 0 => sound_zero S hC hscr hgt
  | n + 1 => sound_succ S hC hscr hgt (sound n)
end
end
end Mine

-- M13
/-! Statements. -/
namespace Mine
open PySem PySem.W PyProof.Rows
set_option maxRecDepth 10000
section
variable {prog : Program} {P : Sta} {env : Env} {ctx : Ctx} {B : Addr → Option Obj} {fr fr1 fr2 : List V} {st st1 st2 st3 : St} {φ : List Addr} {s : Shared} {A : Around} {E : Value → Shared → Prop} {k : Nat} {c : Cfg}

inductive FlR (sc : Addr) (φ : List Addr) : Fl → Flow → Prop
  | next : FlR sc φ .next .next
  | ret {v : V} {cv : Value} : VR sc φ v cv → FlR sc φ (.ret v) (.ret cv)
theorem FlR.mono {sc : Addr} {φ φ' : List Addr} {f : Fl} {g : Flow} (h : FlR sc φ f g) (p : Pre φ φ') : FlR sc φ' f g := by
  cases h with
  | next => exact .next
  | ret v => exact .ret (v.mono p)

noncomputable abbrev K4 (P : Sta) (env : Env) (ctx : Ctx) (B : Addr → Option Obj) (fr' : List V) (st' : St) (φ : List Addr) (fl : Fl) (Q : Flow → Shared → Prop) : Prop :=
  ∀ s' φ' f, R P env ctx B fr' st' φ' s' → Pre φ φ' → FlR P.sc φ' fl f → Q f s'
noncomputable def GS (prog : Program) (P : Sta) (k : Nat) (t : Stmt) (ctx : Ctx) (fr : List V) (st : St) (fl : Fl) (fr' : List V) (st' : St) : Prop :=
  ∀ env B φ s A Q E, AOK k A → EnvOK P env ctx B → Own env ctx B → R P env ctx B fr st φ s → K4 P env ctx B fr' st' φ fl Q → wpAny (model prog P.w) A (exec t env) Q E s
noncomputable def GSs (prog : Program) (P : Sta) (k : Nat) (t : List Stmt) (ctx : Ctx) (fr : List V) (st : St) (fl : Fl) (fr' : List V) (st' : St) : Prop :=
  ∀ env B φ s A Q E, AOK k A → EnvOK P env ctx B → Own env ctx B → R P env ctx B fr st φ s → K4 P env ctx B fr' st' φ fl Q → wpAny (model prog P.w) A (execs t env) Q E s

theorem Own.frz {F : List Addr} {h : Heap} (w : Own env ctx B) (hF : ∀ y c, env.cells.lookup y = some c → c ∉ F) : Own env ctx (Mine.frz F h B) where
  noFree := w.noFree
  cellB := fun x c hc => by unfold Mine.frz; rw [if_neg (hF x c hc)]; exact w.cellB x c hc
  apart := w.apart

theorem swaps_none {e : PySem.Expr} (h : isComp e = false) (t : Option PySem.Expr) (l : Nat) (env : Env) : swapsWith e t l env = pure false := by
  cases e <;> first | rfl | (simp [isComp] at h)
theorem swaps_other {e : PySem.Expr} {t : PySem.Expr} (ht : ∀ x p, t ≠ .Name x p) (l : Nat) (env : Env) : swapsWith e (some t) l env = pure false := by
  cases e <;> first | rfl | (cases t <;> first | rfl | exact absurd rfl (ht _ _))

theorem swaps_sole {ts : List PySem.Expr} {kk : Nat} {p : Pos} (e : PySem.Expr) (l : Nat) (env : Env) : swapsWithSole [.Tuple ts kk p] e l env = pure false :=
  swaps_other (t := .Tuple ts kk p) (fun _ _ q => by cases q) l env

theorem GS_set {x : Str} {px pos : Pos} {e : PySem.Expr} {i : Nat} {v : V} (hx : (x, i) ∈ ctx.vars) (hc : isComp e = false) (h : GE prog P k e ctx fr st v st1) :
    GS prog P k (.Assign [.Name x px] e pos) ctx fr st .next (fr.set i v) st1 := fun env B φ s A Q E hA he ho r hq =>
  wpAny_Assign_Name (h env B φ s A _ E hA he r fun s1 φ1 cv r1 p1 v1 => store_ok he ho r1 hx v1 fun s2 r2 => hq _ _ _ r2 p1 .next) (swaps_none hc _ _ _)

theorem GS_setComp {x y : Str} {px py pos cpos : Pos} {scope : Scope} {ifs : List PySem.Expr} {elt iter : PySem.Expr} {i j : Nat} {stF : St} {step : V → St → Option (Option V × St)} {fuel : Nat} {o : O} (hy : (y, i) ∈ ctx.vars)
    (h : CompOK ctx scope x) (hset : ∀ es kk p, iter ≠ .Set es kk p) (hit : GE prog P k iter ctx fr st (.ref j) st1) (hj : st1[j]? = some o) (hs : StepOK prog P k ifs elt (ctx.inComp scope x) fr ctx.next step)
    (hc : compI step j o st1.length fuel 0 (st1 ++ [.lst []]) = some stF) :
    GS prog P k (.Assign [.Name y py] (.ListComp elt [⟨.Name x px, iter, ifs, 0⟩] scope cpos) pos) ctx fr st .next (fr.set i (.ref st1.length)) stF := fun env B φ s A Q E hA he ho r hq => by
  have key : ∃ b : Bool, swapsWith (.ListComp elt [⟨.Name x px, iter, ifs, 0⟩] scope cpos) (some (.Name y py)) pos.line env = pure b := ⟨_, rfl⟩
  obtain ⟨b, hb⟩ := key
  cases b with
  | false => exact wpAny_Assign_Name (GE_comp h hset hit hj hs hc env B φ s A _ E hA he r fun s1 φ1 cv r1 p1 v1 => store_ok he ho r1 hy v1 fun s2 r2 => hq _ _ _ r2 p1 .next) hb
  | true =>
    rw [exec_Assign_Name_used _ _ _ _ hb]
    refine wpAny_bind (wpAny_standAt (wpAny_bind ?_))
    show wpAny _ A (do
      let _ ← comprehension (.ListComp elt [⟨.Name x px, iter, ifs, 0⟩] scope cpos) scope env (firstIterPos [⟨.Name x px, iter, ifs, 0⟩] cpos) (newList []) (firstAsync [⟨.Name x px, iter, ifs, 0⟩]) (firstIter [⟨.Name x px, iter, ifs, 0⟩] env) (some (assign (.Name y py) env))) _ _ s
    refine wpAny_bind (comp_run hA he h hset hit hj hs hc r fun s' φ' C D m r' p' hD hm c1 c2 c3 c4 => ?_)
    have hF : ∀ b ∈ [C], ∃ ob, s'.heap.get? b = some ob := fun b hb' => by
      rw [List.mem_singleton.mp hb']; obtain ⟨ob, _, _, e1, _⟩ := hm; exact ⟨ob, e1⟩
    have r2 := r'.frz (F := [C]) (fun b hb' => by rw [List.mem_singleton.mp hb']; exact c1)
    have e2 : EnvOK P env ctx (frz [C] s'.heap B) := he.frz r'.base (by simpa using fun q => c3 q.symm)
    have o2 : Own env ctx (frz [C] s'.heap B) := ho.frz fun y c hc' hm' => c4 y (by rw [← List.mem_singleton.mp hm']; exact hc')
    show wpAny _ A (assign (.Name y py) env (.ref D)) _ _ s'
    refine assign_ok e2 o2 r2 hy (.ref _ _ hD) fun s2 r3 => ?_
    obtain ⟨r4, hk⟩ := R.thw r'.base hF r3
    obtain ⟨k1, k2⟩ := hk C (List.mem_singleton.mpr rfl)
    refine ⟨m, ?_, fun h' hsb => ?_⟩
    · obtain ⟨ob, es, ep, e1, q⟩ := hm
      exact ⟨ob, es, ep, k2.trans e1, q⟩
    · refine wpAny_pure (wpAny_pure (hq _ φ' _ (r4.but (fun b ob hb' e => (hsb.2 b hb').trans e) k1 c2 c3 c4) p' .next))

/-! tuples of names -/
inductive NS (ctx : Ctx) : List Str → List Nat → Prop
  | nil : NS ctx [] []
  | cons {x : Str} {i : Nat} {xs : List Str} {is : List Nat} : (x, i) ∈ ctx.vars → NS ctx xs is → NS ctx (x :: xs) (i :: is)
theorem NS.append {xs ys : List Str} {is js : List Nat} (h : NS ctx xs is) (g : NS ctx ys js) : NS ctx (xs ++ ys) (is ++ js) := by
  induction h with
  | nil => exact g
  | cons a _ ih => exact .cons a ih
theorem NS.reverse {xs : List Str} {is : List Nat} (h : NS ctx xs is) : NS ctx xs.reverse is.reverse := by
  induction h with
  | nil => exact .nil
  | cons a _ ih => rw [List.reverse_cons, List.reverse_cons]; exact ih.append (.cons a .nil)
theorem VRs.rev {sc : Addr} {φ : List Addr} : ∀ {xs : List V} {vs : List Value}, VRs sc φ xs vs → VRs sc φ xs.reverse vs.reverse
  | [], vs, h => by
    cases vs with
    | nil => exact .nil
    | cons => have := h.1; simp at this
  | x :: xs, vs, h => by
    obtain ⟨c, r, rfl, vc, hr⟩ := h.uncons
    rw [List.reverse_cons, List.reverse_cons]
    exact hr.rev.append (.cons vc .nil)

inductive NF (prog : Program) (P : Sta) (A : Around) (env : Env) (ctx : Ctx) : List (Value → Sem Unit) → List Nat → Prop
  | nil : NF prog P A env ctx [] []
  | cons {x : Str} {i : Nat} {f : Value → Sem Unit} {fs : List (Value → Sem Unit)} {is : List Nat} : (x, i) ∈ ctx.vars →
      (∀ v Q E s, wpAny (model prog P.w) A (storeName env x v) Q E s → wpAny (model prog P.w) A (f v) Q E s) → NF prog P A env ctx fs is → NF prog P A env ctx (f :: fs) (i :: is)
theorem storeAll_ok (he : EnvOK P env ctx B) (ho : Own env ctx B) :
    ∀ {fs : List (Value → Sem Unit)} {is : List Nat} {vs : List V} {cs : List Value} {fr : List V} {s : Shared} {Q : Unit → Shared → Prop}, NF prog P A env ctx fs is → R P env ctx B fr st φ s → VRs P.sc φ vs cs → vs.length = is.length →
      (∀ s', R P env ctx B (setSlots is vs fr) st φ s' → Q () s') → wpAny (model prog P.w) A (assignInOrder fs cs) Q E s
  | _, _, [], cs, fr, s, Q, .nil, r, hv, hl, h => by
    cases cs with
    | nil => exact wpAny_assignInOrder_none (h _ r)
    | cons => have := hv.1; simp at this
  | _, _, _ :: _, _, _, _, _, .nil, _, _, hl, _ => by simp at hl
  | _, _, [], _, _, _, _, .cons _ _ _, _, _, hl, _ => by simp at hl
  | _, _, v :: vs, cs, fr, s, Q, .cons hx hf hn, r, hv, hl, h => by
    obtain ⟨cv, rest, rfl, vc, hr⟩ := hv.uncons
    refine wpAny_assignInOrder_more (hf _ _ _ _ (store_ok he ho r hx vc fun s' r' => ?_))
    exact storeAll_ok he ho hn r' hr (by simpa using hl) h
theorem NF.ofNames {ns : List Str} {is : List Nat} (h : NS ctx ns is) : NF prog P A env ctx (ns.map fun n => bindName env n) is := by
  induction h with
  | nil => exact .nil
  | cons a _ ih => exact .cons a (fun _ _ _ _ q => wpAny_bindName q) ih
theorem NF.ofExprs {xs : List (Str × Pos)} : ∀ {is : List Nat}, NS ctx (xs.map (·.1)) is → NF prog P A env ctx ((assignEach (xs.map fun p => .Name p.1 p.2) env).map (·.2)) is := by
  induction xs with
  | nil => intro is h; cases h; exact .nil
  | cons p r ih =>
    intro is h
    cases h with
    | cons a b => exact .cons a (fun _ _ _ _ q => wpAny_assign_Name q) (ih b)
theorem NS.len {xs : List Str} {is : List Nat} (h : NS ctx xs is) : is.length = xs.length := by
  induction h with
  | nil => rfl
  | cons _ _ ih => simp [ih]
theorem slotsN_ok : ∀ {ns : List Str} {is : List Nat}, slotsN ctx ns = some is → NS ctx ns is
  | [], is, h => by simp [slotsN] at h; subst h; exact .nil
  | x :: r, is, h => by
    simp only [slotsN] at h
    split at h
    · rename_i i is' h1 h2
      cases h
      exact .cons (lookup_mem h1) (slotsN_ok h2)
    · cases h

theorem slots_names : ∀ {ts : List PySem.Expr} {is : List Nat}, slotsFor ctx ts = some is → ∃ xs : List (Str × Pos), ts = xs.map (fun p => .Name p.1 p.2) ∧ NS ctx (xs.map (·.1)) is
  | [], is, h => by simp [slotsFor] at h; subst h; exact ⟨[], rfl, .nil⟩
  | t :: r, is, h => by
    cases t <;> simp only [slotsFor] at h <;> try (cases h)
    rename_i x p
    split at h
    · rename_i i is' h1 h2
      cases h
      obtain ⟨xs, rfl, hn⟩ := slots_names h2
      exact ⟨(x, p) :: xs, rfl, .cons (lookup_mem h1) hn⟩
    · cases h

theorem swapMode_ok (he : EnvOK P env ctx B) {t e : PySem.Expr} {m : Option (List Str)} (h : swapMode ctx.names t e = some m) : swappedStores [t] e env = pure m := by
  have hb : env.blockKind = (dummyEnv ctx.names).blockKind := by unfold Env.blockKind; rw [he.kind]; rfl
  have hk : env.kindOf = (dummyEnv ctx.names).kindOf := by funext x; unfold Env.kindOf; rw [he.names]; rfl
  have key : swappedStores [t] e env = swappedStores [t] e (dummyEnv ctx.names) := by
    unfold swappedStores
    simp only [hb, hk]
  rw [key]
  unfold swapMode at h
  split at h
  · rename_i m' hm
    cases h
    exact hm
  · cases h

theorem assign_names (xs : List (Str × Pos)) (env : Env) : assignEach (xs.map fun p => .Name p.1 p.2) env = xs.map fun p => (false, assign (.Name p.1 p.2) env) := by
  induction xs with
  | nil => rfl
  | cons p r ih =>
    show (false, assign (.Name p.1 p.2) env) :: assignEach (r.map fun p => .Name p.1 p.2) env = _
    rw [ih]; rfl

theorem GS_setTup {ts : List PySem.Expr} {e : PySem.Expr} {k1 : Nat} {p1 pos : Pos} {is : List Nat} {j : Nat} {xs : List V} (hts : slotsFor ctx ts = some is) (hm : swapMode ctx.names (.Tuple ts k1 p1) e = some none) (h : GE prog P k e ctx fr st (.ref j) st1)
    (hj : st1[j]? = some (.tup xs)) (hl : xs.length = is.length) : GS prog P k (.Assign [.Tuple ts k1 p1] e pos) ctx fr st .next (setSlots is xs fr) st1 := fun env B φ s A Q E hA he ho r hq => by
  obtain ⟨ns, rfl, hn⟩ := slots_names hts
  refine Assign_Tuple (h env B φ s A _ E hA he r fun s1 φ1 cv r1 p1 v1 => ?_) (swaps_sole _ _ _) (swapMode_ok he hm)
  cases v1 with | ref _ a ha =>
  obtain ⟨_, cs, n, hob, hv⟩ := r1.obj hj ha
  have hlen : is.length = ns.length := by rw [hn.len]; simp
  refine wpAny_assign_Tuple (items := cs.toArray) hA.handled ⟨_, hob, rfl, n, rfl⟩ ?_ ?_ fun h' hext => ?_
  · rw [assign_names]; simp [hv.1, hl, hlen]
  · rw [assign_names]
    rw [List.findIdx?_eq_none_iff]
    intro p hp
    obtain ⟨q, _, rfl⟩ := List.mem_map.mp hp
    rfl
  · have r2 : R P env ctx B fr st1 φ1 { s1 with heap := h' } := r1.grow fun b o e => hext b o (Nat.ne_of_lt (Heap.lt_size e)) e
    exact storeAll_ok he ho (NF.ofExprs hn) r2 hv hl (fun s' r' => hq s' φ1 _ r' p1 .next)

theorem GS_setTupR {ts : List PySem.Expr} {e : PySem.Expr} {k1 : Nat} {p1 pos : Pos} {is : List Nat} {ns : List Str} {j : Nat} {xs : List V} (hm : swapMode ctx.names (.Tuple ts k1 p1) e = some (some ns)) (hns : slotsN ctx ns = some is) (h : GE prog P k e ctx fr st (.ref j) st1)
    (hj : st1[j]? = some (.tup xs)) (hl : xs.length = is.length) : GS prog P k (.Assign [.Tuple ts k1 p1] e pos) ctx fr st .next (setSlots is.reverse xs.reverse fr) st1 := fun env B φ s A Q E hA he ho r hq => by
  have hn := slotsN_ok hns
  refine Assign_Tuple_swapped (h env B φ s A _ E hA he r fun s1 φ1 cv r1 p1 v1 => ?_) (swaps_sole _ _ _) (swapMode_ok he hm)
  cases v1 with | ref _ a ha =>
  obtain ⟨_, cs, n, hob, hv⟩ := r1.obj hj ha
  have hlen : ns.length = cs.toArray.size := by rw [List.size_toArray, hv.1, hl, hn.len]
  rw [hlen]
  refine wpAny_unpackItems_tuple hA.handled ⟨_, hob, rfl, n, rfl⟩ fun h' hext => ?_
  have r2 : R P env ctx B fr st1 φ1 { s1 with heap := h' } := r1.grow fun b o e => hext b o (Nat.ne_of_lt (Heap.lt_size e)) e
  exact storeAll_ok he ho (NF.ofNames hn.reverse) r2 hv.rev (by simp [hl]) (fun s' r' => hq s' φ1 _ r' p1 .next)

/-! other stores -/
/-- as update, where the frame's dict is known by its names alone -/
theorem R.updateL {s' : Shared} {o : O} {kk : Nat} {a : Addr} (r : R P env ctx B fr st φ s) (E : EnvOK P env ctx B) (ha : φ[kk]? = some a) (hs : ∀ b ob, b ≠ a → b ≠ env.locals → s.heap.get? b = some ob → s'.heap.get? b = some ob)
    (hloc : ∃ m, s'.heap.Ns env.locals m ∧ ∀ (x : Str) (i : Nat) (v : V), (x, i) ∈ ctx.vars → env.kindOf x = some .local → fr[i]? = some v → v ≠ .undef → ∃ c, m x = some c ∧ VR P.sc φ v c)
    (ho : OR P φ s'.heap a o) (hg : s'.gens = s.gens := by rfl) (hos : s'.os = s.os := by rfl) : R P env ctx B fr (st.set kk o) φ s' := by
  have hm : a ∈ φ := List.mem_iff_getElem?.mpr ⟨kk, ha⟩
  refine ⟨by simp [r.len], fun i o' e => ?_, r.nodup, fun b ob e => hs b ob ?_ ?_ (r.base b ob e), r.off, hloc, ?_, ?_, r.locoff, hg.trans r.gens, hos.trans r.os⟩
  · rw [List.getElem?_set] at e
    by_cases hi : kk = i
    · subst hi
      simp only [if_true] at e
      split at e
      · cases e; exact ⟨a, ha, ho⟩
      · cases e
    · rw [if_neg hi] at e
      obtain ⟨b, hb, q⟩ := r.objs i o' e
      refine ⟨b, hb, q.keep (Pre.refl _) fun ob => hs b ob ?_ (fun e' => r.locoff (e' ▸ List.mem_iff_getElem?.mpr ⟨i, hb⟩))⟩
      rintro rfl
      exact hi (r.nodup kk i b ha hb)
  · rintro rfl
    rw [r.off b hm] at e; cases e
  · rintro rfl
    rw [E.locB] at e; cases e
  · intro x i hx hc
    obtain ⟨c, ov, h1, ⟨ob, e, q⟩, h3⟩ := r.cel x i hx hc
    exact ⟨c, ov, h1, ⟨ob, hs _ _ (fun e' => (r.celoff x c h1).1 (e' ▸ hm)) (r.celoff x c h1).2.1 e, q⟩, h3⟩
  · intro x c hc
    obtain ⟨h1, h2, ov, ob, e, q⟩ := r.celoff x c hc
    exact ⟨h1, h2, ov, ob, hs _ _ (fun e' => h1 (e' ▸ hm)) h2 e, q⟩

theorem GS_setItem {a i e : PySem.Expr} {tp pos : Pos} {x y v : V} {st4 : St} (hv : GE prog P k e ctx fr st v st1) (ha : GE prog P k a ctx fr st1 x st2) (hi : GE prog P k i ctx fr st2 y st3) (hp : putItem st3 x y v = some st4) :
    GS prog P k (.Assign [.Subscript a i tp] e pos) ctx fr st .next fr st4 := fun env B φ s A Q E hA he ho r hq =>
  wpAny_Assign_Subscript (hv env B φ s A _ E hA he r fun s1 φ1 cv r1 p1 v1 => ha env B φ1 s1 A _ E hA he r1 fun s2 φ2 ca r2 p2 v2 => hi env B φ2 s2 A _ E hA he r2 fun s3 φ3 ci r3 p3 v3 => by
    replace v1 := v1.mono (p2.trans p3)
    replace v2 := v2.mono p3
    unfold putItem at hp
    split at hp
    · rename_i kk j
      cases v2 with | ref _ ad hk =>
      cases v3 with | int _ t =>
      split at hp
      · rename_i xs hxs
        split at hp
        · rename_i hc
          cases hp
          obtain ⟨hlen, vs, hpl, hvr⟩ := r3.listAt hk hxs
          have := bigInt hlen
          refine setItem_plain hpl hc.1 (by omega) (by rw [List.size_toArray, hvr.1]; omega) fun h' hp' hs' => ?_
          refine hq _ φ3 _ (r3.update he hk (fun b ob hne e => (hs'.2 b hne).trans e) ⟨by simpa using hlen, vs.set j.toNat cv, ?_, hvr.set v1 _⟩) (p1.trans (p2.trans p3)) .next
          simpa using hp'
        · cases hp
      · cases hp
    · cases hp) (swaps_other (fun _ _ q => by cases q) _ _)

theorem GS_setAttr (S : StaOK prog P) {o e : PySem.Expr} {name : Str} {nm : Nat} {tp pos : Pos} {x v : V} (hx : attrNames[nm]? = some name) (hv : GE prog P k e ctx fr st v st1) (ha : GE prog P k o ctx fr st1 x st2) (hp : putAttr st2 x nm v = some st3) :
    GS prog P k (.Assign [.Attribute o name tp] e pos) ctx fr st .next fr st3 := fun env B φ s A Q E hA he ho r hq =>
  plainObj_wpAny_Assign_Attribute (hv env B φ s A _ E hA he r fun s1 φ1 cv r1 p1 v1 => ha env B φ1 s1 A _ E hA he r1 fun s2 φ2 ca r2 p2 v2 => by
    replace v1 := v1.mono p2
    unfold putAttr at hp
    split at hp
    · cases v2 with | ref kk ad hk =>
      split at hp
      · rename_i d hd
        split at hp
        · rename_i fs hfs
          split at hp
          · rename_i hlen
            cases hp
            obtain ⟨da, hda, hob⟩ := r2.obj hd hk
            obtain ⟨es, n, hdict, hfr, hl⟩ := r2.obj hfs hda
            have hel := hfr.len
            obtain ⟨m, hm, q⟩ := r2.loc
            refine S.setA A s2 ad da env.locals m es n nm name cv _ E (r2.kept he) hx hob hdict hfr.looks (by omega) hm (fun e => r2.locoff (e ▸ List.mem_iff_getElem?.mpr ⟨d, hda⟩)) fun h' hsh hs' hm' hd' => ?_
            refine hq _ φ2 _ (r2.updateL he hda hs' ⟨m, hm', q⟩ ⟨_, _, hd', hfr.put hx v1, ?_⟩) (p1.trans p2) .next
            have hputlen : ∀ es : List DictEntry, (putL name hsh (.str name (s2.toks + 1)) cv es).length ≤ es.length + 1 := by
              intro es
              induction es with
              | nil => simp [putL]
              | cons e r ih => unfold putL; split <;> simp <;> omega
            have := hputlen es
            omega
          · cases hp
        · cases hp
      · cases hp
    · cases hp) (swaps_other (fun _ _ q => by cases q) _ _)

theorem GS_augVar {x : Str} {px pos : Pos} {e : PySem.Expr} {op : Operator} {i : Nat} {a b r : Int} (hx : (x, i) ∈ ctx.vars) (ha : getV fr i = some (.int a)) (he : GE prog P k e ctx fr st (.int b) st1)
    (hop : (op = .Add ∧ r = a + b) ∨ (op = .BitOr ∧ r = Builtin.bitOr a b)) : GS prog P k (.AugAssign (.Name x px) op e pos) ctx fr st .next (fr.set i (.int r)) st1 := fun env B φ s A Q E hA hen ho r0 hq =>
  wpAny_AugAssign_Name (load_v hen r0 hx ha fun ca va => he env B φ s A _ E hA hen r0 fun s1 φ1 cb r1 p1 vb => by
    cases va with | int _ t =>
    cases vb with | int _ u =>
    rcases hop with ⟨rfl, rfl⟩ | ⟨rfl, rfl⟩
    · exact wpAny_iadd_int (store_ok hen ho (r1.same) hx (.int _ _) fun s2 r2 => hq _ _ _ r2 p1 .next)
    · exact ior_int (store_ok hen ho (r1.same) hx (.int _ _) fun s2 r2 => hq _ _ _ r2 p1 .next))

theorem GS_augItem {o i e : PySem.Expr} {tp pos : Pos} {op : Operator} {x y : V} {a b r : Int} {st4 : St} (hni : ∀ lo hi p, i ≠ .Slice lo hi none p) (ho : GE prog P k o ctx fr st x st1) (hi : GE prog P k i ctx fr st1 y st2) (hsub : subV st2 x y = some (.int a)) (he : GE prog P k e ctx fr st2 (.int b) st3)
    (hop : (op = .Sub ∧ r = a - b) ∨ (op = .BitOr ∧ r = Builtin.bitOr a b)) (hp : putItem st3 x y (.int r) = some st4) : GS prog P k (.AugAssign (.Subscript o i tp) op e pos) ctx fr st .next fr st4 := fun env B φ s A Q E hA hen hown r0 hq =>
  wpAny_AugAssign_SubscriptAny (ho env B φ s A _ E hA hen r0 fun s1 φ1 co r1 p1 vo => hi env B φ1 s1 A _ E hA hen r1 fun s2 φ2 ci r2 p2 vi => by
    replace vo := vo.mono p2
    unfold subV at hsub
    split at hsub
    · rename_i kk j
      cases vo with | ref _ ad hk =>
      cases vi with | int _ t =>
      split at hsub
      · rename_i xs hxs
        split at hsub
        · rename_i h0
          obtain ⟨hlen, vs, hpl, hvr⟩ := r2.listAt hk hxs
          obtain ⟨ca, hca, va⟩ := hvr.2 _ _ hsub
          have hlt := (List.getElem?_eq_some_iff.mp hsub).1
          have hbig := bigInt hlen
          refine wpAny_getItem_list hpl.isList h0 (by omega) (by simpa using hca) (he env B φ2 s2 A _ E hA hen r2 fun s3 φ3 cb r3 p3 vb => ?_)
          cases va with | int _ u =>
          cases vb with | int _ w =>
          have fin : ∀ s4 : Shared, s4.heap = s3.heap → s4.gens = s3.gens → s4.os = s3.os → wpAny (model prog P.w) A (setItem (.ref ad) (.int j t) (.int r s3.toks)) (fun _ => Q .next) E s4 := by
            intro s4 e1 e2 e3
            have r4 : R P env ctx B fr st3 φ3 s4 := r3.same e1 e2 e3
            unfold putItem at hp
            simp only at hp
            split at hp
            · rename_i ys hys
              split at hp
              · rename_i hc
                cases hp
                obtain ⟨hlen2, ws, hpl2, hvr2⟩ := r4.listAt (p3 _ _ hk) hys
                have hbig2 := bigInt hlen2
                refine setItem_plain hpl2 hc.1 (by omega) (by rw [List.size_toArray, hvr2.1]; omega) fun h' hp' hs' => ?_
                refine hq _ φ3 _ (r4.update hen (p3 _ _ hk) (fun b ob hne e => (hs'.2 b hne).trans e) ⟨by simpa using hlen2, ws.set j.toNat (.int r s3.toks), ?_, hvr2.set (.int _ _) _⟩) (p1.trans (p2.trans p3)) .next
                simpa using hp'
              · cases hp
            · cases hp
          rcases hop with ⟨rfl, rfl⟩ | ⟨rfl, rfl⟩
          · exact isub_int (fin _ rfl rfl rfl)
          · exact ior_int (fin _ rfl rfl rfl)
        · cases hsub
      · cases hsub
    · cases hsub) (by
    intro ov iv new
    cases i with
    | Slice lo hi st p =>
      cases st with
      | none => exact absurd rfl (hni _ _ _)
      | some => rfl
    | _ => rfl)

theorem GS_expr {e : PySem.Expr} {pos : Pos} {v : V} (hc : isComp e = false) (h : GE prog P k e ctx fr st v st1) : GS prog P k (.Expr e pos) ctx fr st .next fr st1 := fun env B φ s A Q E hA he ho r hq =>
  wpAny_Expr_any (h env B φ s A _ E hA he r fun s1 φ1 cv r1 p1 v1 => hq _ _ _ r1 p1 .next) (by unfold interactive; rw [he.kind]; rfl) (swaps_none hc _ _ _)
theorem GS_ret {e : PySem.Expr} {pos : Pos} {v : V} (h : GE prog P k e ctx fr st v st1) : GS prog P k (.Return (some e) pos) ctx fr st (.ret v) fr st1 := fun env B φ s A Q E hA he ho r hq =>
  wpAny_Return_some (h env B φ s A _ E hA he r fun s1 φ1 cv r1 p1 v1 => hq _ _ _ r1 p1 (.ret v1))
theorem GS_if {t : PySem.Expr} {a b : List Stmt} {pos : Pos} {cc : Bool} {fl : Fl} (ht : GB prog P k t ctx fr st cc st1) (ha : cc = true → GSs prog P k a ctx fr st1 fl fr2 st2) (hb : cc = false → GSs prog P k b ctx fr st1 fl fr2 st2) :
    GS prog P k (.If t a b pos) ctx fr st fl fr2 st2 := fun env B φ s A Q E hA he ho r hq =>
  wpAny_If (ht env B φ s A _ E hA he r fun s1 φ1 r1 p1 => by
    cases cc with
    | true => exact ha rfl env B φ1 s1 A _ E hA he ho r1 fun s2 φ2 f r2 p2 hf => hq _ _ _ r2 (p1.trans p2) hf
    | false => exact hb rfl env B φ1 s1 A _ E hA he ho r1 fun s2 φ2 f r2 p2 hf => hq _ _ _ r2 (p1.trans p2) hf)
theorem GSs_nil : GSs prog P k [] ctx fr st .next fr st := fun _ _ φ _ _ _ _ _ _ _ r hq => wpAny_execs_nil (hq _ φ _ r (Pre.refl _) .next)
theorem GSs_next {t : Stmt} {ts : List Stmt} {fl : Fl} (h1 : GS prog P k t ctx fr st .next fr1 st1) (h2 : GSs prog P k ts ctx fr1 st1 fl fr2 st2) : GSs prog P k (t :: ts) ctx fr st fl fr2 st2 := fun env B φ s A Q E hA he ho r hq =>
  wpAny_execs_cons (h1 env B φ s A _ E hA he ho r fun s1 φ1 f r1 p1 hf => by
    cases hf
    exact h2 env B φ1 s1 A _ E hA he ho r1 fun s2 φ2 f r2 p2 hf => hq _ _ _ r2 (p1.trans p2) hf)
theorem GSs_ret {t : Stmt} {ts : List Stmt} {v : V} (h1 : GS prog P k t ctx fr st (.ret v) fr1 st1) : GSs prog P k (t :: ts) ctx fr st (.ret v) fr1 st1 := fun env B φ s A Q E hA he ho r hq =>
  wpAny_execs_cons (h1 env B φ s A _ E hA he ho r fun s1 φ1 f r1 p1 hf => by
    cases hf with
    | ret vc => exact hq _ _ _ r1 p1 (.ret vc))
end
end Mine

-- M14
/-! Loops; the soundness of the statements' evaluator. -/
namespace Mine
open PySem PySem.W PyProof.Rows
set_option maxRecDepth 10000
section
variable {prog : Program} {P : Sta} {env : Env} {ctx : Ctx} {B : Addr → Option Obj} {fr fr1 fr2 : List V} {st st1 st2 st3 : St} {φ : List Addr} {s : Shared} {A : Around} {E : Value → Shared → Prop} {k : Nat} {c : Cfg}

theorem fresh_ok (e : EnvOK P env ctx B) (r : R P env ctx B fr st φ s) {I : Addr} (hI : s.heap.objs.size = I) : I ∉ φ ∧ B I = none ∧ I ≠ env.locals ∧ ∀ y, env.cells.lookup y ≠ some I := by
  subst hI
  exact ⟨fun hm => Nat.lt_irrefl _ (r.lt hm), r.Blt (Nat.le_refl _), fun q => by have := r.loclt; rw [← q] at this; exact Nat.lt_irrefl _ this, fun y q => by
    obtain ⟨_, _, ov, hov⟩ := r.celoff y _ q
    exact Nat.lt_irrefl _ hov.lt⟩

theorem for_loop {x : Str} {px : Pos} {slot j : Nat} {o : O} {I a : Addr} {body : List V → St → Option (Fl × List V × St)} {stmts : List Stmt} {fl : Fl} {frF : List V} {stF : St} {φ0 : List Addr} {RR : Result → Shared → Prop}
    (hA : AOK k A) (e : EnvOK P env ctx B) (w : Own env ctx B) (hx : (x, slot) ∈ ctx.vars) (hb : ∀ fr st fl fr' st', body fr st = some (fl, fr', st') → GSs prog P k stmts ctx fr st fl fr' st')
    (hI1 : B I = none) (hI2 : I ≠ env.locals) (hI3 : ∀ y, env.cells.lookup y ≠ some I)
    (hR : ∀ s' φ' f, R P env ctx B frF stF φ' s' → Pre φ0 φ' → FlR P.sc φ' fl f → RR (.ok f) s') :
    ∀ n i fr st φ s, forI body slot j o n i fr st = some (fl, frF, stF) → R P env ctx B fr st φ s → ItAt s.heap I a o i → φ[j]? = some a → Pre φ0 φ → I ∉ φ →
    codeAny (model prog P.w) A (.forLoop (.Name x px) (.ref I) stmts [] env) RR s := by
  intro n i fr st φ s hc r hI hj hp hIφ
  refine codeAny_forLoop (fun n s => ∃ i fr st φ, forI body slot j o n i fr st = some (fl, frF, stF) ∧ R P env ctx B fr st φ s ∧ ItAt s.heap I a o i ∧ φ[j]? = some a ∧ Pre φ0 φ ∧ I ∉ φ) ?_ n ⟨i, fr, st, φ, hc, r, hI, hj, hp, hIφ⟩
  clear hc r hI hj hp hIφ
  rintro n s ⟨i, fr, st, φ, hc, r, hI, hj, hp, hIφ⟩
  cases n with
  | zero => simp [forI] at hc
  | succ n =>
    unfold forI at hc
    split at hc
    · cases hc
    · rename_i hn
      cases hc
      exact next_none hA.handled r hj hI hn fun h' hext => wpAny_execs_nil (hR _ φ _ (r.but (fun b o hb e => hext b o hb e) hIφ hI1 hI2 hI3) hp .next)
    · rename_i v hn
      refine next_some r hj hI hn fun h' tk cv hI' hsb vr => ?_
      have r1 : R P env ctx B fr st φ { s with heap := h', toks := tk } := r.but (fun b o hb e => (hsb.2 b hb).trans e) hIφ hI1 hI2 hI3
      have r2 := r1.frz (F := [I]) (fun b hb => by rw [List.mem_singleton.mp hb]; exact hIφ)
      have hb1 : ∀ b o, B b = some o → h'.get? b = some o := r1.base
      have e2 : EnvOK P env ctx (frz [I] h' B) := e.frz hb1 (by simpa using fun q => hI2 q.symm)
      have w2 : Own env ctx (frz [I] h' B) := w.frz fun y c hc' hm' => hI3 y (by rw [← List.mem_singleton.mp hm']; exact hc')
      obtain ⟨oI, hoI⟩ := hI'.some
      have hF : ∀ b ∈ [I], ∃ o, h'.get? b = some o := fun b hb => ⟨oI, by rw [List.mem_singleton.mp hb]; exact hoI⟩
      have back : ∀ {fr' st' φ' s'}, R P env ctx (frz [I] h' B) fr' st' φ' s' → R P env ctx B fr' st' φ' s' ∧ ItAt s'.heap I a o (i + 1) ∧ I ∉ φ' := by
        intro fr' st' φ' s' r'
        obtain ⟨q1, q2⟩ := R.thw hb1 hF r'
        obtain ⟨q4, q5⟩ := q2 I (List.mem_singleton.mpr rfl)
        exact ⟨q1, hI'.keep q5, q4⟩
      refine assign_ok e2 w2 r2 hx vr fun s2 r3 => ?_
      split at hc
      · cases hc
      · rename_i fr' st' hbody
        refine hb _ _ _ _ _ hbody env _ φ s2 A _ _ hA e2 w2 r3 fun s3 φ3 f r4 p4 hf => ?_
        cases hf
        obtain ⟨q1, q2, q3⟩ := back r4
        exact ⟨n, Nat.lt_succ_self n, i + 1, _, _, φ3, hc, q1, q2, p4 _ _ hj, hp.trans p4, q3⟩
      · rename_i v' fr' st' hbody
        refine hb _ _ _ _ _ hbody env _ φ s2 A _ _ hA e2 w2 r3 fun s3 φ3 f r4 p4 hf => ?_
        cases hc
        cases hf with
        | ret vc => exact hR _ φ3 _ (back r4).1 (hp.trans p4) (.ret vc)

theorem GS_for {x : Str} {px pos : Pos} {it : PySem.Expr} {slot j fuel : Nat} {o : O} {body : List V → St → Option (Fl × List V × St)} {stmts : List Stmt} {fl : Fl} (hx : (x, slot) ∈ ctx.vars) (hset : ∀ es kk p, it ≠ .Set es kk p)
    (hit : GE prog P k it ctx fr st (.ref j) st1) (hj : st1[j]? = some o) (hb : ∀ fr st fl fr' st', body fr st = some (fl, fr', st') → GSs prog P k stmts ctx fr st fl fr' st') (hc : forI body slot j o fuel 0 fr st1 = some (fl, fr2, st2)) :
    GS prog P k (.For (.Name x px) it stmts [] pos) ctx fr st fl fr2 st2 := fun env B φ s A Q E hA he ho r hq => by
  have hiter : isIter o = true := by
    cases fuel with
    | zero => simp [forI] at hc
    | succ n =>
      unfold forI at hc
      refine nextItem_iter (st := st1) (j := j) (i := 0) fun q => ?_
      rw [q] at hc; cases hc
  refine wpAny_For (hit env B φ s A _ E hA he r fun s1 φ1 cv r1 p1 v1 => ?_) (fun v => folded_ok hset env v)
  cases v1 with | ref _ a ha =>
  refine iter_ok r1 hj ha hiter fun h2 hk2 hI => ?_
  obtain ⟨f1, f2, f3, f4⟩ := fresh_ok he r1 rfl
  exact for_loop hA he ho hx hb f2 f3 f4 (fun s' φ' f r' p' hf => hq s' φ' f r' (p1.trans p') hf) fuel 0 fr st1 φ1 _ hc (r1.grow hk2) hI ha (Pre.refl _) f1

theorem GS_while {t : PySem.Expr} {pos : Pos} {fuel : Nat} {cond : List V → St → Option (V × St)} {body : List V → St → Option (Fl × List V × St)} {stmts : List Stmt} {fl : Fl}
    (ht : ∀ fr st v st', cond fr st = some (v, st') → ∃ b, v = .bool b ∧ GB prog P k t ctx fr st b st') (hb : ∀ fr st fl fr' st', body fr st = some (fl, fr', st') → GSs prog P k stmts ctx fr st fl fr' st')
    (hc : whlI cond body fuel fr st = some (fl, fr2, st2)) : GS prog P k (.While t stmts [] pos) ctx fr st fl fr2 st2 := fun env B φ s A Q E hA he ho r hq => by
  refine wpAny_While ?_
  refine codeAny_whileLoop (fun n s => ∃ fr st φ', whlI cond body n fr st = some (fl, fr2, st2) ∧ R P env ctx B fr st φ' s ∧ Pre φ φ') ?_ fuel ⟨fr, st, φ, hc, r, Pre.refl _⟩
  clear hc r
  rintro n s ⟨fr, st, φ', hc, r, hp⟩
  cases n with
  | zero => simp [whlI] at hc
  | succ n =>
    unfold whlI at hc
    split at hc
    · rename_i st' hcond
      obtain ⟨b, hb', hg⟩ := ht _ _ _ _ hcond
      cases hb'
      refine hg env B φ' s A _ _ hA he r fun s1 φ1 r1 p1 => ?_
      split at hc
      · cases hc
      · rename_i fr' st'' hbody
        refine hb _ _ _ _ _ hbody env B φ1 s1 A _ _ hA he ho r1 fun s2 φ2 f r2 p2 hf => ?_
        cases hf
        exact ⟨n, Nat.lt_succ_self n, _, _, φ2, hc, r2, hp.trans (p1.trans p2)⟩
      · rename_i v' fr' st'' hbody
        refine hb _ _ _ _ _ hbody env B φ1 s1 A _ _ hA he ho r1 fun s2 φ2 f r2 p2 hf => ?_
        cases hc
        cases hf with
        | ret vc => exact hq _ φ2 _ r2 (hp.trans (p1.trans p2)) (.ret vc)
    · rename_i st' hcond
      obtain ⟨b, hb', hg⟩ := ht _ _ _ _ hcond
      cases hb'
      cases hc
      exact hg env B φ' s A _ _ hA he r fun s1 φ1 r1 p1 => wpAny_execs_nil (hq _ φ1 _ r1 (hp.trans p1) .next)
    · cases hc

structure SoundS (prog : Program) (P : Sta) (k : Nat) (c : Cfg) (n : Nat) : Prop where
  s : ∀ t ctx fr st fl fr' st', ex c (cS theGlb ctx n t) fr st = some (fl, fr', st') → GS prog P (k + 1) t ctx fr st fl fr' st'
  ss : ∀ ts ctx fr st fl fr' st', exs c (cSs theGlb ctx n ts) fr st = some (fl, fr', st') → GSs prog P (k + 1) ts ctx fr st fl fr' st'

theorem ex_fail {fr : List V} {st : St} {p : Fl × List V × St} (h : ex c .fail fr st = some p) : False := by simp [exq_fail] at h

section
variable (S : StaOK prog P) (hC : CallOK prog P k c.C) (hscr : c.scr = P.scr) (hgt : c.gt = theTups)
include S hC hscr hgt

theorem comp_parts {n : Nat} {elt : PySem.Expr} {gs : List Comprehension} {scope : Scope} {pos : Pos} {v : V} {st' : St} (h : ev c (cE theGlb ctx n (.ListComp elt gs scope pos)) fr st = some (v, st')) :
    ∃ x px iter ifs j o step st1, gs = [⟨.Name x px, iter, ifs, 0⟩] ∧ CompOK ctx scope x ∧ (∀ es kk p, iter ≠ .Set es kk p) ∧ GE prog P (k + 1) iter ctx fr st (.ref j) st1 ∧ st1[j]? = some o ∧ StepOK prog P (k + 1) ifs elt (ctx.inComp scope x) fr ctx.next step ∧
      compI step j o st1.length c.N 0 (st1 ++ [.lst []]) = some st' ∧ v = .ref st1.length := by
  cases n with
  | zero => exact (ev_fail (show ev c .fail _ _ = _ from h)).elim
  | succ n =>
    have ih := sound S hC hscr hgt n
    have h' : ev c (match comp1 gs with
      | some (x, iter, ifs) => if compOk ctx scope x then .comp ctx.next (cE theGlb ctx n iter) (cBs theGlb (ctx.inComp scope x) n ifs) (cE theGlb (ctx.inComp scope x) n elt) else .fail
      | none => .fail) fr st = some (v, st') := h
    split at h'
    · rename_i x iter ifs hg
      obtain ⟨px, rfl⟩ := comp1_eq hg
      split at h'
      · rename_i hok
        simp only [evq_fail, evq_int, evq_bool, evq_none, evq_var, evq_glob, evq_gtup, evq_bin, evq_un, evq_cmp, evq_ite, evq_notB, evq_andB, evq_orB, evq_truthy, evq_andV, evq_orV, evq_lst, evq_tup, evq_comp, evq_len, evq_range1, evq_range3, evq_listOf, evq_min, evq_intOf, evq_call, evq_new, evq_append, evq_extend, evq_attr, evq_sub, evq_slice, Option.bind_eq_some_iff, Option.map_eq_some_iff] at h'
        obtain ⟨⟨w, st1⟩, hp, ⟨j, o⟩, hsrc, stF, hcomp, h'⟩ := h'
        cases h'
        cases w with
        | ref kk =>
          simp only [srcOf, Option.map_eq_some_iff] at hsrc
          obtain ⟨o', ho, hsrc⟩ := hsrc
          cases hsrc
          refine ⟨x, px, iter, ifs, _, _, _, st1, rfl, CompOK.of hok, (fun es kk p q => ?_), ih.e _ _ _ _ _ _ hp, ho, ?_, hcomp, rfl⟩
          · subst q
            cases n with
            | zero => exact (ev_fail (show ev c .fail _ _ = _ from hp)).elim
            | succ n => exact (ev_fail (show ev c .fail _ _ = _ from hp)).elim
          · intro u s0 o s1 hs
            simp only [Option.bind_eq_some_iff] at hs
            obtain ⟨⟨w, s2⟩, hw, hs⟩ := hs
            obtain ⟨b, rfl, hgt'⟩ := ih.bs _ _ _ _ _ _ hw
            refine ⟨b, s2, hgt', fun hb => ?_, fun hb => ?_⟩
            · subst hb
              simp only [Option.map_eq_some_iff] at hs
              obtain ⟨r, hr, hs⟩ := hs
              cases hs
              exact ⟨_, rfl, ih.e _ _ _ _ _ _ hr⟩
            · subst hb
              simp only at hs
              cases hs
              exact ⟨rfl, rfl⟩
        | _ => simp [srcOf] at hsrc
      · exact (ev_fail h').elim
    · exact (ev_fail h').elim

theorem soundS_s {n : Nat} (ih : SoundS prog P k c n) : ∀ t ctx fr st fl fr' st', ex c (cS theGlb ctx (n + 1) t) fr st = some (fl, fr', st') → GS prog P (k + 1) t ctx fr st fl fr' st' := by
  intro t ctx fr st fl fr' st' h
  have se := sound S hC hscr hgt n
  cases t with
  | Assign targets e pos =>
    rcases targets with _ | ⟨t, _ | ⟨t2, r⟩⟩
    · exact (ex_fail (show ex c .fail _ _ = _ from h)).elim
    · cases t with
      | Name x px =>
        have h' : ex c (match ctx.vars.lookup x with
          | some i => .set i (cE theGlb ctx n e)
          | none => .fail) fr st = some (fl, fr', st') := h
        split at h'
        · rename_i i hi
          simp only [exq_fail, exq_set, exq_setTup, exq_setTupR, exq_setItem, exq_setAttr, exq_augVar, exq_augItem, exq_expr, exq_ret, exq_ite, exq_for_, exq_whl, Option.map_eq_some_iff] at h'
          obtain ⟨p, hp, h'⟩ := h'
          cases h'
          cases hc : isComp e with
          | false => exact GS_set (lookup_mem hi) hc (se.e _ _ _ _ _ _ hp)
          | true =>
            cases e <;> simp [isComp] at hc
            · obtain ⟨x', px', iter, ifs, j, o, step, st1, rfl, h1, h2, h3, h4, h5, h6, h7⟩ := comp_parts S hC hscr hgt hp
              rw [h7]
              exact GS_setComp (lookup_mem hi) h1 h2 h3 h4 h5 h6
            · cases n with
              | zero => exact (ev_fail (show ev c .fail _ _ = _ from hp)).elim
              | succ n => exact (ev_fail (show ev c .fail _ _ = _ from hp)).elim
            · cases n with
              | zero => exact (ev_fail (show ev c .fail _ _ = _ from hp)).elim
              | succ n => exact (ev_fail (show ev c .fail _ _ = _ from hp)).elim
        · exact (ex_fail h').elim
      | Tuple ts kk tp =>
        have h' : ex c (match slotsFor ctx ts, swapMode ctx.names (.Tuple ts kk tp) e with
          | some is, some none => .setTup is (cE theGlb ctx n e)
          | some is, some (some ns) => if slotsN ctx ns == some is then .setTupR is (cE theGlb ctx n e) else .fail
          | _, _ => .fail) fr st = some (fl, fr', st') := h
        split at h'
        · rename_i is h1 h2
          simp only [exq_fail, exq_set, exq_setTup, exq_setTupR, exq_setItem, exq_setAttr, exq_augVar, exq_augItem, exq_expr, exq_ret, exq_ite, exq_for_, exq_whl, Option.bind_eq_some_iff] at h'
          obtain ⟨⟨w, st1⟩, hp, h'⟩ := h'
          cases w <;> simp only at h' <;> try (cases h')
          split at h'
          · rename_i xs hx
            split at h'
            · rename_i hl
              cases h'
              exact GS_setTup h1 h2 (se.e _ _ _ _ _ _ hp) hx hl
            · cases h'
          · cases h'
        · rename_i is ns h1 h2
          split at h'
          · rename_i hns
            simp only [exq_fail, exq_set, exq_setTup, exq_setTupR, exq_setItem, exq_setAttr, exq_augVar, exq_augItem, exq_expr, exq_ret, exq_ite, exq_for_, exq_whl, Option.bind_eq_some_iff] at h'
            obtain ⟨⟨w, st1⟩, hp, h'⟩ := h'
            cases w <;> simp only at h' <;> try (cases h')
            split at h'
            · rename_i xs hx
              split at h'
              · rename_i hl
                cases h'
                exact GS_setTupR h2 (by simpa using hns) (se.e _ _ _ _ _ _ hp) hx hl
              · cases h'
            · cases h'
          · exact (ex_fail h').elim
        · exact (ex_fail h').elim
      | Attribute o m tp =>
        have h' : ex c (match idx theGlb.attrs m with
          | some j => .setAttr (cE theGlb ctx n o) j (cE theGlb ctx n e)
          | none => .fail) fr st = some (fl, fr', st') := h
        split at h'
        · rename_i j hj
          simp only [exq_fail, exq_set, exq_setTup, exq_setTupR, exq_setItem, exq_setAttr, exq_augVar, exq_augItem, exq_expr, exq_ret, exq_ite, exq_for_, exq_whl, Option.bind_eq_some_iff, Option.map_eq_some_iff] at h'
          obtain ⟨p, hp, q, hq, st3, h3, h'⟩ := h'
          cases h'
          exact GS_setAttr S (idx_get hj) (se.e _ _ _ _ _ _ hp) (se.e _ _ _ _ _ _ hq) h3
        · exact (ex_fail h').elim
      | Subscript a i tp =>
        have h' : ex c (.setItem (cE theGlb ctx n a) (cE theGlb ctx n i) (cE theGlb ctx n e)) fr st = some (fl, fr', st') := h
        simp only [exq_fail, exq_set, exq_setTup, exq_setTupR, exq_setItem, exq_setAttr, exq_augVar, exq_augItem, exq_expr, exq_ret, exq_ite, exq_for_, exq_whl, Option.bind_eq_some_iff, Option.map_eq_some_iff] at h'
        obtain ⟨p, hp, q, hq, r, hr, st3, h3, h'⟩ := h'
        cases h'
        exact GS_setItem (se.e _ _ _ _ _ _ hp) (se.e _ _ _ _ _ _ hq) (se.e _ _ _ _ _ _ hr) h3
      | _ => exact (ex_fail (show ex c .fail _ _ = _ from h)).elim
    · cases t <;> exact (ex_fail (show ex c .fail _ _ = _ from h)).elim
  | AugAssign t op e pos =>
    cases t with
    | Name x px =>
      have h' : ex c (match ctx.vars.lookup x with
        | some i => .augVar i op (cE theGlb ctx n e)
        | none => .fail) fr st = some (fl, fr', st') := h
      split at h'
      · rename_i i hi
        simp only [exq_fail, exq_set, exq_setTup, exq_setTupR, exq_setItem, exq_setAttr, exq_augVar, exq_augItem, exq_expr, exq_ret, exq_ite, exq_for_, exq_whl, Option.bind_eq_some_iff] at h'
        obtain ⟨old, ho, ⟨w, st1⟩, hp, h'⟩ := h'
        cases old <;> cases w <;> simp only at h' <;> try (cases h')
        cases op <;> simp only at h' <;> cases h'
        · exact GS_augVar (lookup_mem hi) ho (se.e _ _ _ _ _ _ hp) (.inl ⟨rfl, rfl⟩)
        · exact GS_augVar (lookup_mem hi) ho (se.e _ _ _ _ _ _ hp) (.inr ⟨rfl, rfl⟩)
      · exact (ex_fail h').elim
    | Subscript a i tp =>
      have h' : ex c (.augItem (cE theGlb ctx n a) (cE theGlb ctx n i) op (cE theGlb ctx n e)) fr st = some (fl, fr', st') := h
      simp only [exq_fail, exq_set, exq_setTup, exq_setTupR, exq_setItem, exq_setAttr, exq_augVar, exq_augItem, exq_expr, exq_ret, exq_ite, exq_for_, exq_whl, Option.bind_eq_some_iff] at h'
      obtain ⟨⟨w1, st1⟩, hp, ⟨w2, st2⟩, hq, old, hold, ⟨w3, st3⟩, hr, h'⟩ := h'
      have hni : ∀ lo hi p, i ≠ .Slice lo hi none p := fun lo hi p q => by
        subst q
        cases n with
        | zero => exact (ev_fail (show ev c .fail _ _ = _ from hq)).elim
        | succ n => exact (ev_fail (show ev c .fail _ _ = _ from hq)).elim
      cases old <;> cases w3 <;> simp only at h' <;> try (cases h')
      cases op <;> simp only at h' <;> try (cases h')
      · simp only [Option.map_eq_some_iff] at h'
        obtain ⟨st4, h4, h'⟩ := h'
        cases h'
        exact GS_augItem hni (se.e _ _ _ _ _ _ hp) (se.e _ _ _ _ _ _ hq) hold (se.e _ _ _ _ _ _ hr) (.inl ⟨rfl, rfl⟩) h4
      · simp only [Option.map_eq_some_iff] at h'
        obtain ⟨st4, h4, h'⟩ := h'
        cases h'
        exact GS_augItem hni (se.e _ _ _ _ _ _ hp) (se.e _ _ _ _ _ _ hq) hold (se.e _ _ _ _ _ _ hr) (.inr ⟨rfl, rfl⟩) h4
    | _ => exact (ex_fail (show ex c .fail _ _ = _ from h)).elim
  | Expr e pos =>
    have h' : ex c (if isComp e then .fail else .expr (cE theGlb ctx n e)) fr st = some (fl, fr', st') := h
    split at h'
    · exact (ex_fail h').elim
    · rename_i hc
      simp only [exq_fail, exq_set, exq_setTup, exq_setTupR, exq_setItem, exq_setAttr, exq_augVar, exq_augItem, exq_expr, exq_ret, exq_ite, exq_for_, exq_whl, Option.map_eq_some_iff] at h'
      obtain ⟨p, hp, h'⟩ := h'
      cases h'
      exact GS_expr (by simpa using hc) (se.e _ _ _ _ _ _ hp)
  | Return e pos =>
    cases e with
    | none => exact (ex_fail (show ex c .fail _ _ = _ from h)).elim
    | some e =>
      have h' : ex c (.ret (cE theGlb ctx n e)) fr st = some (fl, fr', st') := h
      simp only [exq_fail, exq_set, exq_setTup, exq_setTupR, exq_setItem, exq_setAttr, exq_augVar, exq_augItem, exq_expr, exq_ret, exq_ite, exq_for_, exq_whl, Option.map_eq_some_iff] at h'
      obtain ⟨p, hp, h'⟩ := h'
      cases h'
      exact GS_ret (se.e _ _ _ _ _ _ hp)
  | If t a b pos =>
    have h' : ex c (.ite (cB theGlb ctx n t) (cSs theGlb ctx n a) (cSs theGlb ctx n b)) fr st = some (fl, fr', st') := h
    simp only [exq_fail, exq_set, exq_setTup, exq_setTupR, exq_setItem, exq_setAttr, exq_augVar, exq_augItem, exq_expr, exq_ret, exq_ite, exq_for_, exq_whl, Option.bind_eq_some_iff] at h'
    obtain ⟨⟨w, st1⟩, hp, h'⟩ := h'
    obtain ⟨bb, rfl, hg⟩ := se.b _ _ _ _ _ _ hp
    cases bb with
    | true => exact GS_if hg (fun _ => ih.ss _ _ _ _ _ _ _ h') (fun q => by cases q)
    | false => exact GS_if hg (fun q => by cases q) (fun _ => ih.ss _ _ _ _ _ _ _ h')
  | For t it body orelse pos =>
    cases t with
    | Name x px =>
      cases orelse with
      | cons => exact (ex_fail (show ex c .fail _ _ = _ from h)).elim
      | nil =>
        have h' : ex c (match ctx.vars.lookup x with
          | some i => .for_ i (cE theGlb ctx n it) (cSs theGlb ctx n body)
          | none => .fail) fr st = some (fl, fr', st') := h
        split at h'
        · rename_i i hi
          simp only [exq_fail, exq_set, exq_setTup, exq_setTupR, exq_setItem, exq_setAttr, exq_augVar, exq_augItem, exq_expr, exq_ret, exq_ite, exq_for_, exq_whl, Option.bind_eq_some_iff] at h'
          obtain ⟨⟨w, st1⟩, hp, ⟨j, o⟩, hsrc, h'⟩ := h'
          cases w with
          | ref kk =>
            simp only [srcOf, Option.map_eq_some_iff] at hsrc
            obtain ⟨o', ho, hsrc⟩ := hsrc
            cases hsrc
            refine GS_for (lookup_mem hi) (fun es kk p q => ?_) (se.e _ _ _ _ _ _ hp) ho (fun fr st fl fr' st' hb => ih.ss _ _ _ _ _ _ _ hb) h'
            subst q
            cases n with
            | zero => exact (ev_fail (show ev c .fail _ _ = _ from hp)).elim
            | succ n => exact (ev_fail (show ev c .fail _ _ = _ from hp)).elim
          | _ => simp [srcOf] at hsrc
        · exact (ex_fail h').elim
    | _ => exact (ex_fail (show ex c .fail _ _ = _ from h)).elim
  | While t body orelse pos =>
    cases orelse with
    | cons => exact (ex_fail (show ex c .fail _ _ = _ from h)).elim
    | nil =>
      have h' : ex c (.whl (cB theGlb ctx n t) (cSs theGlb ctx n body)) fr st = some (fl, fr', st') := h
      simp only [exq_fail, exq_set, exq_setTup, exq_setTupR, exq_setItem, exq_setAttr, exq_augVar, exq_augItem, exq_expr, exq_ret, exq_ite, exq_for_, exq_whl] at h'
      exact GS_while (fun fr st v st' hb => se.b _ _ _ _ _ _ hb) (fun fr st fl fr' st' hb => ih.ss _ _ _ _ _ _ _ hb) h'
  | _ => exact (ex_fail (show ex c .fail _ _ = _ from h)).elim

theorem soundS : ∀ n, SoundS prog P k c n
  | 0 => ⟨fun t ctx fr st fl fr' st' h => (ex_fail (show ex c .fail _ _ = _ from h)).elim, fun ts ctx fr st fl fr' st' h => by
      have h' : exs c [.fail] fr st = some (fl, fr', st') := h
      simp [exsq_cons, exq_fail] at h'⟩
  | n + 1 => ⟨soundS_s S hC hscr hgt (soundS n), fun ts ctx fr st fl fr' st' h => by
      have ih := soundS n
      cases ts with
      | nil =>
        have h' : exs c [] fr st = some (fl, fr', st') := h
        simp only [exsq_nil, exsq_cons] at h'
        cases h'
        exact GSs_nil
      | cons t r =>
        have h' : exs c (cS theGlb ctx n t :: cSs theGlb ctx n r) fr st = some (fl, fr', st') := h
        simp only [exsq_nil, exsq_cons, Option.bind_eq_some_iff] at h'
        obtain ⟨⟨f, fr1, st1⟩, hp, h'⟩ := h'
        cases f with
        | next => exact GSs_next (ih.s _ _ _ _ _ _ _ hp) (ih.ss _ _ _ _ _ _ _ h')
        | ret v => cases h'; exact GSs_ret (ih.s _ _ _ _ _ _ _ hp)⟩
end
end
end Mine

-- M15
/-! The text's own calls, by induction on the depth. -/
namespace Mine
open PySem PySem.W PyProof.Rows
set_option maxRecDepth 10000

/-- what a def must be -/
noncomputable def defOk (d : Def) : Bool :=
  d.scope.kind == .function && !d.scope.isCoroutine && !d.scope.isGenerator && decide (slotsOf d).Nodup &&
  (d.params.args.map (·.arg)).all (fun x => (slotsOf d).contains x) &&
  (slotsOf d).all (fun x => (d.scope.names.lookup x == some .local || d.scope.names.lookup x == some .cell) && !(x == ("__debug__" : Str)) && !(x == ("__classdict__" : Str)))
theorem defs_ok : fnNames.all (fun x => match theDef x with | some d => defOk d | none => false) = true := by decide +kernel

section
variable {prog : Program} {P : Sta} {env : Env} {ctx : Ctx} {B : Addr → Option Obj} {fr fr1 fr2 : List V} {st st1 st2 st3 : St} {φ : List Addr} {s : Shared} {A : Around} {E : Value → Shared → Prop} {k : Nat} {c : Cfg}

/-- the tracked objects alone -/
structure T (P : Sta) (st : St) (φ : List Addr) (s : Shared) : Prop where
  len : φ.length = st.length
  objs : ∀ (k : Nat) (o : O), st[k]? = some o → ∃ a, φ[k]? = some a ∧ OR P φ s.heap a o
  nodup : ∀ (i j : Nat) (a : Addr), φ[i]? = some a → φ[j]? = some a → i = j
  kept : Kept P.h0 s.heap
  off : ∀ a ∈ φ, P.h0.get? a = none
  gens : s.gens = P.s0.gens
  os : s.os = P.s0.os
theorem R.toT (r : R P env ctx B fr st φ s) (e : EnvOK P env ctx B) : T P st φ s := ⟨r.len, r.objs, r.nodup, r.kept e, fun a ha => (by
  cases h : P.h0.get? a with
  | none => rfl
  | some o => exact absurd (e.hB a o h) (by rw [r.off a ha]; simp)), r.gens, r.os⟩
theorem T.lt (r : T P st φ s) {a : Addr} (ha : a ∈ φ) : a < s.heap.objs.size := by
  obtain ⟨k, hk⟩ := List.mem_iff_getElem?.mp ha
  have hl := (List.getElem?_eq_some_iff.mp hk).1
  rw [r.len] at hl
  obtain ⟨b, hb, q⟩ := r.objs k _ (List.getElem?_eq_getElem hl)
  rw [hk] at hb; cases hb
  obtain ⟨o, ho⟩ := q.some
  exact Heap.lt_size ho

theorem bindL_not {kindOf : Str → Option NameKind} {x : Str} : ∀ {binds : List (Str × Value)} {m : Str → Option Value}, x ∉ binds.map (·.1) → bindL kindOf binds m x = m x
  | [], _, _ => rfl
  | (n, v) :: r, m, h => by
    unfold bindL
    rw [bindL_not (fun q => h (List.mem_cons_of_mem _ q))]
    split
    · have hne : ¬ x = n := fun q => h (by rw [q]; exact List.mem_cons_self)
      simp [hne]
    · rfl
theorem bindC_not {kindOf : Str → Option NameKind} {x : Str} : ∀ {binds : List (Str × Value)} {m : Str → Option Value}, x ∉ binds.map (·.1) → bindC kindOf binds m x = m x
  | [], _, _ => rfl
  | (n, v) :: r, m, h => by
    unfold bindC
    rw [bindC_not (fun q => h (List.mem_cons_of_mem _ q))]
    split
    · rfl
    · have hne : ¬ x = n := fun q => h (by rw [q]; exact List.mem_cons_self)
      simp [hne]
theorem bindL_get {kindOf : Str → Option NameKind} {x : Str} {c : Value} (hk : kindOf x = some .local) : ∀ {binds : List (Str × Value)} {m : Str → Option Value}, (binds.map (·.1)).Nodup → (x, c) ∈ binds → bindL kindOf binds m x = some c
  | (n, v) :: r, m, hn, h => by
    rw [List.map_cons, List.nodup_cons] at hn
    unfold bindL
    rcases List.mem_cons.mp h with h | h
    · cases h
      rw [bindL_not hn.1, if_pos hk]; simp
    · exact bindL_get hk hn.2 h
theorem bindC_get {kindOf : Str → Option NameKind} {x : Str} {c : Value} (hk : kindOf x ≠ some .local) : ∀ {binds : List (Str × Value)} {m : Str → Option Value}, (binds.map (·.1)).Nodup → (x, c) ∈ binds → bindC kindOf binds m x = some c
  | (n, v) :: r, m, hn, h => by
    rw [List.map_cons, List.nodup_cons] at hn
    unfold bindC
    rcases List.mem_cons.mp h with h | h
    · cases h
      rw [bindC_not hn.1, if_neg hk]; simp
    · exact bindC_get hk hn.2 h

theorem zipIdx_mem {l : List Str} {x : Str} {i : Nat} (h : (x, i) ∈ l.zipIdx) : l[i]? = some x := by
  have := List.mem_zipIdx_iff_getElem?.mp h
  simpa using this

/-- the frame that a call is made in -/
noncomputable def frameB (φ : List Addr) (h : Heap) (b : Addr) : Option Obj := if b ∈ φ then none else h.get? b

theorem call_core (S : StaOK prog P) {C : Nat → List V → St → Option (V × St)} {N : Nat} {d : Def} {f : Addr} {args : List V} {fl : Fl} {frF : List V} {stF : St} {cs : List Value} {Q : Value → Shared → Prop}
    (hC : ∀ env ctx B fr st φ s A Q E fl fr' st', exs ⟨N, C, P.scr, theTups⟩ (fnOfDef theGlb d).body fr st = some (fl, fr', st') → ctx = ctxOf d → AOK k A → EnvOK P env ctx B → Own env ctx B → R P env ctx B fr st φ s → K4 P env ctx B fr' st' φ fl Q → wpAny (model prog P.w) A (execs d.body env) Q E s)
    (hf : FnOK P f d) (hd : defOk d = true) (hA : AOK (k + 1) A) (r : T P st φ s) (hargs : VRs P.sc φ args cs) (hn : args.length = d.params.args.length)
    (he : exs ⟨N, C, P.scr, theTups⟩ (fnOfDef theGlb d).body (args ++ List.replicate (fnOfDef theGlb d).ns .undef) st = some (fl, frF, stF))
    (hQ : ∀ s' φ' c, T P stF φ' s' → Pre φ φ' → (∀ b o, b ∉ φ → s.heap.get? b = some o → s'.heap.get? b = some o ∧ b ∉ φ') → VR P.sc φ' (match fl with | .ret v => v | .next => .none) c → Q c s') :
    codeAny (model prog P.w) A (.call (.ref f) ⟨cs, []⟩) (fun r s' => match r with | .ok (.ret v) => Q v s' | .ok _ => False | .error e => E e s') s := by
  obtain ⟨o, fd, ho, hdata, hbody, hscope, hclo, hglb, hblt, hcode, hbind⟩ := hf
  simp only [defOk, Bool.and_eq_true, beq_iff_eq, Bool.not_eq_true', decide_eq_true_eq, List.all_eq_true, Bool.or_eq_true, List.contains_iff_mem] at hd
  obtain ⟨⟨⟨⟨⟨d1, d2⟩, d3⟩, d4⟩, d5⟩, d6⟩ := hd
  have hcs : cs.length = d.params.args.length := by rw [hargs.1]; exact hn
  have hkd := r.kept
  -- the names' kinds
  let ps := d.params.args.map (·.arg)
  have hps : ∀ x ∈ ps, x ∈ slotsOf d := fun x hx => d5 x hx
  have hpn : ps.Nodup := by
    have : (slotsOf d) = ps ++ ((d.scope.names.filter fun p => (p.2 == .local || p.2 == .cell) && !ps.contains p.1).map (·.1)) := rfl
    rw [this] at d4
    exact (List.nodup_append.mp d4).1
  have hkind : ∀ x ∈ slotsOf d, d.scope.names.lookup x = some .local ∨ d.scope.names.lookup x = some .cell := fun x hx => (d6 x hx).1.1
  have hzip : (ps.zip cs).map (·.1) = ps := by
    rw [List.map_fst_zip]
    simp [ps, hcs]
  have hdepth := hA.depth
  refine codeAny_call_cells (by show A.depth < 1000; omega) (hkd _ _ ho) hdata (S.nolimit.keeps hkd) (hcode.keeps hkd) hbody (hbind cs hcs) hclo ?_ ?_ (by rw [hscope]; exact d2) (by rw [hscope]; exact d3) (by rw [hscope]; exact d1)
  · intro x hx
    have hxp : x.1 ∈ ps := by rw [← hzip]; exact List.mem_map.mpr ⟨x, hx, rfl⟩
    rw [hscope]
    rcases hkind _ (hps _ hxp) with h | h
    · exact .inl h
    · exact .inr ⟨h, cellsFrom_some _ _ _ (.inl h)⟩
  · intro s₁ ic
    generalize hL : s.heap.objs.size = L at ic ⊢
    have henv : (callEnvC fd L f).scope = d.scope := hscope
    have hkindOf : ∀ x, (callEnvC fd L f).kindOf x = d.scope.names.lookup x := fun x => by
      show fd.scope.names.lookup x = _
      rw [hscope]
    have hLoc : (callEnvC fd L f).locals = L := rfl
    have hcells : (callEnvC fd L f).cells = cellsFrom (L + 1) d.scope.names [] := by
      show cellsFrom (L + 1) fd.scope.names [] = _
      rw [hscope]
    have hkeep : Kept s.heap s₁.heap := ic.toInCall.keep
    obtain ⟨h₁, tk, hs1⟩ := ic.toInCall.same
    have fresh : ∀ b ob, s.heap.get? b = some ob → b < L := fun b ob e => by rw [← hL]; exact Heap.lt_size e
    have cellL : ∀ x cc, (callEnvC fd L f).cells.lookup x = some cc → L < cc := fun x cc h => ic.above x cc (mem_of_lookup h)
    have hnone : ∀ b, L ≤ b → s.heap.get? b = none := fun b hb => by
      cases e : s.heap.get? b with
      | none => rfl
      | some ob => exact absurd (Nat.lt_of_le_of_lt hb (fresh b ob e)) (Nat.lt_irrefl _)
    have eok : EnvOK P (callEnvC fd L f) (ctxOf d) (frameB φ s.heap) := by
      refine ⟨by rw [henv]; exact d1, hglb, hblt, by rw [henv]; rfl, ?_, ?_, ?_, ?_, ?_, ?_, ?_⟩
      · intro x y i hx hy
        have h1 := zipIdx_mem hx
        have h2 := zipIdx_mem hy
        rw [h1] at h2; cases h2; rfl
      · intro x i j hx hy
        have h1 := zipIdx_mem hx
        have h2 := zipIdx_mem hy
        exact (List.getElem?_inj (List.getElem?_eq_some_iff.mp h1).1 d4).mp (h1.trans h2.symm)
      · intro x i hx
        exact (List.getElem?_eq_some_iff.mp (zipIdx_mem hx)).1
      · intro x i hx
        rw [hkindOf]
        rcases hkind x (List.mem_iff_getElem?.mpr ⟨i, zipIdx_mem hx⟩) with h | h
        · exact .inl h
        · exact .inr (.inl h)
      · intro x i hx
        have := d6 x (List.mem_iff_getElem?.mpr ⟨i, zipIdx_mem hx⟩)
        exact ⟨this.1.2, this.2⟩
      · intro b ob hb
        unfold frameB
        rw [if_neg (fun hm => by rw [r.off b hm] at hb; cases hb)]
        exact hkd b ob hb
      · unfold frameB
        rw [hLoc]
        split
        · rfl
        · exact hnone L (Nat.le_refl _)
    have own : Own (callEnvC fd L f) (ctxOf d) (frameB φ s.heap) := by
      refine ⟨?_, ?_, ?_⟩
      · intro x i hx q
        rw [hkindOf] at q
        rcases hkind x (List.mem_iff_getElem?.mpr ⟨i, zipIdx_mem hx⟩) with h | h <;> rw [h] at q <;> cases q
      · intro x cc hc
        unfold frameB
        split
        · rfl
        · exact hnone cc (Nat.le_of_lt (cellL x cc hc))
      · intro x y cc h1 h2
        exact name_of_addr ic.apart (mem_of_lookup h1) (mem_of_lookup h2)
    have slotArg : ∀ (x : Str) (i : Nat) (v : V), (x, i) ∈ (ctxOf d).vars → (args ++ List.replicate (fnOfDef theGlb d).ns V.undef)[i]? = some v → v ≠ .undef → ∃ cv, (x, cv) ∈ ps.zip cs ∧ VR P.sc φ v cv := by
      intro x i v hx hv hne
      by_cases hi : i < args.length
      · rw [List.getElem?_append_left hi] at hv
        obtain ⟨cv, hcv, vr⟩ := hargs.2 i v hv
        refine ⟨cv, ?_, vr⟩
        have hx' := zipIdx_mem hx
        have hsl : (slotsOf d) = ps ++ ((d.scope.names.filter fun p => (p.2 == .local || p.2 == .cell) && !ps.contains p.1).map (·.1)) := rfl
        rw [hsl, List.getElem?_append_left (by show i < (d.params.args.map (·.arg)).length; rw [List.length_map, ← hn]; exact hi)] at hx'
        exact List.mem_iff_getElem?.mpr ⟨i, by rw [List.getElem?_zip_eq_some]; exact ⟨hx', hcv⟩⟩
      · rw [List.getElem?_append_right (by omega), List.getElem?_replicate] at hv
        split at hv
        · cases hv; exact absurd rfl hne
        · cases hv
    have r1 : R P (callEnvC fd L f) (ctxOf d) (frameB φ s.heap) (args ++ List.replicate (fnOfDef theGlb d).ns .undef) st φ s₁ := by
      refine ⟨r.len, fun kk ob e => ?_, r.nodup, fun b ob e => ?_, fun a ha => ?_, ⟨_, ic.toInCall.ns, ?_⟩, ?_, ?_, ?_, ?_, ?_⟩
      · obtain ⟨a, ha, q⟩ := r.objs kk ob e
        exact ⟨a, ha, q.keep (Pre.refl _) fun o1 => hkeep a o1⟩
      · unfold frameB at e
        split at e
        · cases e
        · exact hkeep b ob e
      · unfold frameB; rw [if_pos ha]
      · intro x i v hx hk hv hne
        obtain ⟨cv, hm, vr⟩ := slotArg x i v hx hv hne
        exact ⟨cv, bindL_get hk (by rw [hzip]; exact hpn) hm, vr⟩
      · intro x i hx hk
        have hc : d.scope.names.lookup x = some .cell := by
          rw [hkindOf] at hk
          rcases hk with h | h
          · exact h
          · rcases hkind x (List.mem_iff_getElem?.mpr ⟨i, zipIdx_mem hx⟩) with h' | h' <;> rw [h'] at h <;> cases h
        obtain ⟨cc, hcc⟩ := Option.isSome_iff_exists.mp (cellsFrom_some (x := x) d.scope.names (L + 1) [] (.inl hc))
        rw [← hcells] at hcc
        refine ⟨cc, _, hcc, ic.cell x cc hcc, fun v hv hne => ?_⟩
        obtain ⟨cv, hm, vr⟩ := slotArg x i v hx hv hne
        exact ⟨cv, bindC_get (by rw [hkindOf, hc]; decide) (by rw [hzip]; exact hpn) hm, vr⟩
      · intro x cc hc
        refine ⟨fun hm => ?_, ?_, _, ic.cell x cc hc⟩
        · have h1 := r.lt hm
          rw [hL] at h1
          exact Nat.lt_irrefl _ (Nat.lt_trans h1 (cellL x cc hc))
        · rw [hLoc]; exact fun q => Nat.lt_irrefl _ (q ▸ cellL x cc hc)
      · rw [hLoc]
        intro hm
        have h1 := r.lt hm
        rw [hL] at h1
        exact Nat.lt_irrefl _ h1
      · rw [hs1]; exact r.gens
      · rw [hs1]; exact r.os
    have A2 : AOK k (A.deeper (callEnvC fd L f)) := ⟨hA.handled, by show A.depth + 1 + 10 * k < 600; have := hA.depth; omega, by show A.units + 3 + 100 * k < 2000; have := hA.units; omega⟩
    refine hC _ _ _ _ _ _ _ _ _ _ _ _ _ he rfl A2 eok own r1 fun s' φ' g r' p' hg => ?_
    have hT : T P stF φ' s' := r'.toT eok
    have hfr : ∀ b ob, b ∉ φ → s.heap.get? b = some ob → s'.heap.get? b = some ob ∧ b ∉ φ' := fun b ob hb e => by
      have hB : frameB φ s.heap b = some ob := by unfold frameB; rw [if_neg hb]; exact e
      exact ⟨r'.base b ob hB, fun hm => by rw [r'.off b hm] at hB; cases hB⟩
    cases hg with
    | next => exact hQ s' φ' .none hT p' hfr .none
    | ret vc => exact hQ s' φ' _ hT p' hfr vc

/-- back in the caller's frame -/
theorem R.fromCall {φ' : List Addr} {st' : St} {s' : Shared} (r : R P env ctx B fr st φ s) (p : Pre φ φ') (t : T P st' φ' s') (h : ∀ b o, b ∉ φ → s.heap.get? b = some o → s'.heap.get? b = some o ∧ b ∉ φ') : R P env ctx B fr st' φ' s' := by
  have hB : ∀ b o, B b = some o → b ∉ φ := fun b o e hm => by rw [r.off b hm] at e; cases e
  refine ⟨t.len, t.objs, t.nodup, fun b o e => (h b o (hB b o e) (r.base b o e)).1, fun a ha => ?_, ?_, ?_, ?_, ?_, t.gens, t.os⟩
  · cases e : B a with
    | none => rfl
    | some o => exact absurd ha (h a o (hB a o e) (r.base a o e)).2
  · obtain ⟨m, ⟨o, es, ep, h1, h2⟩, q⟩ := r.loc
    exact ⟨m, ⟨o, es, ep, (h _ _ r.locoff h1).1, h2⟩, fun y i v a1 a2 a3 a4 => let ⟨c, b1, b2⟩ := q y i v a1 a2 a3 a4; ⟨c, b1, b2.mono p⟩⟩
  · intro y i hy hk
    obtain ⟨c, ov, h1, ⟨o, h2, h3⟩, h4⟩ := r.cel y i hy hk
    exact ⟨c, ov, h1, ⟨o, (h _ _ (r.celoff y c h1).1 h2).1, h3⟩, fun v a1 a2 => let ⟨cv, b1, b2⟩ := h4 v a1 a2; ⟨cv, b1, b2.mono p⟩⟩
  · intro y c hc
    obtain ⟨h1, h2, ov, o, h3, h4⟩ := r.celoff y c hc
    exact ⟨(h _ _ h1 h3).2, h2, ov, o, (h _ _ h1 h3).1, h4⟩
  · obtain ⟨m, ⟨o, es, ep, h1, h2⟩, q⟩ := r.loc
    exact (h _ _ r.locoff h1).2

/-- a call from anywhere -/
noncomputable def CallT (prog : Program) (P : Sta) (k : Nat) (C : Nat → List V → St → Option (V × St)) : Prop :=
  ∀ f args st v st', C f args st = some (v, st') → ∀ φ s A cs (Q : Value → Shared → Prop) (E : Value → Shared → Prop), AOK k A → T P st φ s → VRs P.sc φ args cs →
    (∀ s' φ' c, T P st' φ' s' → Pre φ φ' → (∀ b o, b ∉ φ → s.heap.get? b = some o → s'.heap.get? b = some o ∧ b ∉ φ') → VR P.sc φ' v c → Q c s') →
    codeAny (model prog P.w) A (.call (.ref (P.fa f)) ⟨cs, []⟩) (fun r s' => match r with | .ok (.ret v) => Q v s' | .ok _ => False | .error e => E e s') s
theorem CallT.ok {C : Nat → List V → St → Option (V × St)} (h : CallT prog P k C) : CallOK prog P k C := fun f args st v st' hc env ctx B fr φ s A cs Q E hA he r hv hq =>
  h f args st v st' hc φ s A cs Q E hA (r.toT he) hv fun s' φ' c t p hk vc => hq s' φ' c (r.fromCall p t hk) p vc

theorem run_ok (S : StaOK prog P) (N : Nat) : ∀ d, CallT prog P (2 * d) (run theFns N P.scr theTups d)
  | 0 => fun f args st v st' h => by simp [run] at h
  | d + 1 => fun f args st v st' h φ s A cs Q E hA t hv hq => by
    have ih := (run_ok S N d).ok
    unfold run at h
    split at h
    · cases h
    · rename_i fn hfn
      split at h
      · rename_i hlen
        have hnm : ∃ x, fnNames[f]? = some x ∧ fn = (match theDef x with | some d => fnOfDef theGlb d | none => ⟨0, 0, [.fail]⟩) := by
          unfold theFns at hfn
          rw [List.getElem?_map] at hfn
          obtain ⟨x, hx, rfl⟩ := Option.map_eq_some_iff.mp hfn
          exact ⟨x, hx, rfl⟩
        obtain ⟨x, hx, hfn'⟩ := hnm
        have hdk := List.all_eq_true.mp defs_ok x (List.mem_iff_getElem?.mpr ⟨f, hx⟩)
        cases hd : theDef x with
        | none => rw [hd] at hdk; cases hdk
        | some df =>
          rw [hd] at hdk hfn'
          simp only at hdk hfn'
          subst hfn'
          have hn : args.length = df.params.args.length := hlen
          have body : ∀ env ctx B fr st φ s A Q E fl fr' st', exs ⟨N, run theFns N P.scr theTups d, P.scr, theTups⟩ (fnOfDef theGlb df).body fr st = some (fl, fr', st') → ctx = ctxOf df → AOK (2 * d + 1) A → EnvOK P env ctx B → Own env ctx B → R P env ctx B fr st φ s →
              K4 P env ctx B fr' st' φ fl Q → wpAny (model prog P.w) A (execs df.body env) Q E s := by
            intro env ctx B fr st φ s A Q E fl fr' st' he hctx hA' he' ho' r' hq'
            subst hctx
            exact (soundS (c := ⟨N, run theFns N P.scr theTups d, P.scr, theTups⟩) S ih rfl rfl 60).ss df.body (ctxOf df) fr st fl fr' st' he env B φ s A Q E hA' he' ho' r' hq'
          have e2 : 2 * (d + 1) = (2 * d + 1) + 1 := by omega
          rw [e2] at hA
          split at h
          · rename_i w frF stF he
            cases h
            exact call_core S body (S.fns f x df hx hd) hdk hA t hv hn he fun s' φ' c t' p' hk' vc => hq s' φ' c t' p' hk' vc
          · rename_i frF stF he
            cases h
            exact call_core S body (S.fns f x df hx hd) hdk hA t hv hn he fun s' φ' c t' p' hk' vc => hq s' φ' c t' p' hk' vc
          · cases h
      · cases h
end
end Mine

-- M16
/-! The class's facts from the top's written part. -/
namespace Mine
open PySem PySem.W PyProof.Rows
set_option maxRecDepth 10000
section
variable {K : Frag} {prog : Program} {w : World} {h0 : Heap} {C fI : Addr}

theorem mkI_of (X : K.In h0) (hm : makesIn K C = true) (hi : findIn K (.ref C) "__init__" = some (some (.ref fI))) (hf : typeIn K (.ref fI) = some (.type "function")) (A : Around) (s : Shared) (args : List Value) (Q : Value → Shared → Prop) (E : Value → Shared → Prop) (hk : Kept h0 s.heap)
    (h : ∀ h', Kept s.heap h' → h'.get? s.heap.objs.size = some (dictOf [] 0) → h'.get? (s.heap.objs.size + 1) = some (instObj C s.heap.objs.size) →
      codeAny (model prog w) (A.under (.builtin "type.__call__" ⟨.ref C :: args, []⟩)) (.call (.ref fI) ⟨.ref (s.heap.objs.size + 1) :: args, []⟩)
        (InitBack (s.heap.objs.size + 1) fun r s' => match r with | .ok (.ret v) => Q v s' | .ok _ => False | .error e => E e s') { s with heap := h' }) :
    wpAny (model prog w) A (call (.ref C) args []) Q E s := by
  have X' := Frag.In.keeps X hk
  obtain ⟨hh, g, d, t, os⟩ := s
  refine wpAny_call (make_core (makes_of X' hm) (looks_findIn X' hi) (fun self => bind_fn X' self hf) (.inl rfl) (h _ (fun b o e => Heap.get?_push_of_some _ (Heap.get?_push_of_some _ e)) (Heap.get?_push_of_some _ (Heap.get?_push_size _ rfl)) ?_))
  have := Heap.get?_push_size (h := hh.push emptyDict) (o := instObj C hh.objs.size) rfl
  rwa [Heap.size_push] at this

theorem getA_of (X : K.In h0) (hg : plainGet K C "x" = true) (hh : hasDictIn K C = true) (A : Around) (s : Shared) (x dx : Addr) (es : List DictEntry) (n : Nat) (name : Str) (v : Value) (Q : Value → Shared → Prop) (E : Value → Shared → Prop) (hk : Kept h0 s.heap)
    (ha : ∃ attr, findIn K (.ref C) name = some attr ∧ noGet K attr = true)
    (hx : s.heap.get? x = some (instObj C dx)) (hd : s.heap.get? dx = some (dictOf es n)) (hl : getL name es = some (some v)) (hv : handedIn v = true) (h : Q v { s with toks := s.toks + 1 }) : wpAny (model prog w) A (getAttr (.ref x) name true) Q E s := by
  obtain ⟨attr, ha, hn⟩ := ha
  exact get_value (ox := instObj C dx) (od := some (dictOf es n)) (Frag.In.keeps X hk) ⟨hx, rfl, rfl, hd⟩ (plainGet_of hg).1 (findObj_own hh ha hn hl) hv h

theorem setA_of (X : K.In h0) (hs : findIn K (.ref C) "__setattr__" = some (some (.builtin "object.__setattr__"))) (hp : plainOver K C = true) (hh : hasDictIn K C = true) (A : Around) (s : Shared) (x dx L : Addr) (m : Str → Option Value) (es : List DictEntry) (n : Nat) (name : Str) (v : Value) (Q : Unit → Shared → Prop) (E : Value → Shared → Prop)
    (hk : Kept h0 s.heap) (ht : takerIn K C name = some none)
    (hx : s.heap.get? x = some (instObj C dx)) (hd : s.heap.get? dx = some (dictOf es n)) (hl : (getL name es).isSome = true) (hz : es.length ≤ 500) (hL : s.heap.Ns L m) (hne : L ≠ dx)
    (h : ∀ h' hsh, (∀ b o, b ≠ dx → b ≠ L → s.heap.get? b = some o → h'.get? b = some o) → h'.Ns L m → h'.get? dx = some (dictOf (putL name hsh (.str name (s.toks + 1)) v es) (putN name es n)) → Q () { s with heap := h', toks := s.toks + 2 }) :
    wpAny (model prog w) A (setAttr (.ref x) name v) Q E s := by
  have X' := Frag.In.keeps X hk
  let rest : List (Addr × Obj) := (List.range s.heap.objs.size).filterMap fun a => if a = dx ∨ a = L then none else (s.heap.get? a).map fun o => (a, o)
  have hrest : ∀ p ∈ rest, s.heap.get? p.1 = some p.2 ∧ p.1 ≠ dx ∧ p.1 ≠ L := by
    intro p hp
    obtain ⟨a, _, ha⟩ := List.mem_filterMap.mp hp
    split at ha
    · cases ha
    · rename_i hc
      obtain ⟨o, ho, rfl⟩ := Option.map_eq_some_iff.mp ha
      exact ⟨ho, fun q => hc (.inl q), fun q => hc (.inr q)⟩
  have hall : ∀ b o, b ≠ dx → b ≠ L → s.heap.get? b = some o → (b, o) ∈ rest := by
    intro b o h1 h2 h3
    refine List.mem_filterMap.mpr ⟨b, List.mem_range.mpr (Heap.lt_size h3), ?_⟩
    rw [if_neg (fun q => q.elim h1 h2), h3]; rfl
  have F : Fr { objs := #[] } L s.heap m := ⟨hL, fun b o e => by simp [Heap.get?] at e, Nat.zero_le _⟩
  have N : News { objs := #[] } L s.heap ([] ++ (dx, dictOf es n) :: rest) := by
    intro p hp
    rcases List.mem_cons.mp hp with rfl | hp
    · exact ⟨hd, fun q => hne q.symm, by simp [Heap.get?]⟩
    · obtain ⟨h1, h2, h3⟩ := hrest p hp
      exact ⟨h1, h3, by simp [Heap.get?]⟩
  have hputlen : ∀ (key : Value) (es : List DictEntry), (putL name (PyData.keyHash w.params name) key v es).length ≤ es.length + 1 := by
    intro key es
    induction es with
    | nil => simp [putL]
    | cons e r ih => unfold putL; split <;> simp <;> omega
  have hle := hputlen (.str name (s.toks + 1)) es
  refine set_plain (ox := instObj C dx) (od := some (dictOf es n)) X' ⟨hx, rfl, rfl, hd⟩ hs (osa_dict (ox := instObj C dx) (s := { s with toks := s.toks + 1 }) F N X' ⟨hx, rfl, rfl, hd⟩ rfl hp ht hh hl (fun p hp => nomatch hp) (fun p hp => (hrest p hp).2.1) (by rw [putName_dict]) rfl (Nat.le_trans (hputlen _ es) (by omega)) fun h' F' N' => ?_)
  refine h h' _ (fun b o h1 h2 h3 => (N' (b, o) (List.mem_cons_of_mem _ (hall b o h1 h2 h3))).1) F'.ns (N' _ (List.mem_cons_self ..)).1
end
end Mine
namespace Mine
open PySem PySem.W PyProof.Rows
theorem FnOK.of {P : Sta} {f : Addr} {x : Str} {d : Def} {o : Obj} {fd : FuncData} {ps : List Str} (hd : theDef x = some d) (ho : P.h0.get? f = some o) (hdat : o.data = .func fd)
    (hb : (theDef x).map (fun d => (FuncBody.stmts d.body, d.scope, d.params.args.map (·.arg))) = some (fd.body, fd.scope, ps)) (h1 : fd.closure = []) (h2 : fd.globals = mainGlobals) (h3 : fd.builtins = builtinsNs) (h4 : P.h0.CodeRec fd.code fd.qualname)
    (h5 : ∀ args : List Value, args.length = ps.length → bindArgs fd ⟨args, []⟩ = pure (ps.zip args)) : FnOK P f d := by
  rw [hd] at hb
  simp only [Option.map_some, Option.some.injEq, Prod.mk.injEq] at hb
  obtain ⟨e1, e2, e3⟩ := hb
  refine ⟨o, fd, ho, hdat, e1.symm, e2.symm, h1, h2, h3, h4, fun args ha => ?_⟩
  rw [e3]
  exact h5 args (by rw [ha, ← e3]; simp)
noncomputable def faOf : Nat → Nat
  | 0 => 55 | 1 => 69 | 2 => 76 | 3 => 83 | 4 => 90 | 5 => 97 | 6 => 104 | 7 => 111 | 8 => 118 | 9 => 123 | 10 => 19 | 11 => 128 | 12 => 133 | _ => 138
end Mine

-- N1
/-! The compiled program, written out. -/
namespace Mine
open PySem
noncomputable def initB : List MS :=
  [.setAttr (.var 0) 0 (.var 1), .setAttr (.var 0) 1 (.var 2), .setAttr (.var 0) 2 (.bin (.Mult) (.var 1) (.var 2)), .setAttr (.var 0) 3 (.bin (.Sub) (.bin (.LShift) (.int 1) (.bin (.Mult) (.var 1) (.var 2))) (.int 1)), .setAttr (.var 0) 4 (.andV (.var 3) (.cmp (.GtE) (.var 2) (.int 5))), .setAttr (.var 0) 5 (.var 4), .setAttr (.var 0) 6 (.lst []), .setAttr (.var 0) 7 (.lst []), .setAttr (.var 0) 8 (.lst []), .setAttr (.var 0) 9 (.lst []), .setAttr (.var 0) 10 (.lst []), .setAttr (.var 0) 11 (.lst [.lst [], .lst []]), .setAttr (.var 0) 12 (.lst []), .setAttr (.var 0) 13 (.lst [])]
noncomputable def growB : List MS :=
  [.ret (.orV (.cmp (.Gt) (.gtup 1 (.var 0)) (.int 0)) (.cmp (.Eq) (.var 0) (.int 1)))]
noncomputable def masksB : List MS :=
  [.set 1 (.bin (.Sub) (.bin (.LShift) (.int 1) (.attr (.var 0) 0)) (.int 1)), .set 2 (.int 0), .for_ 3 (.range1 (.attr (.var 0) 1)) [.expr (.append (.attr (.var 0) 7) (.bin (.LShift) (.var 1) (.bin (.Mult) (.var 3) (.attr (.var 0) 0)))), .augVar 2 (.BitOr) (.bin (.LShift) (.int 1) (.bin (.Mult) (.var 3) (.attr (.var 0) 0)))], .for_ 4 (.range1 (.attr (.var 0) 0)) [.expr (.append (.attr (.var 0) 6) (.bin (.LShift) (.var 2) (.var 4)))]]
noncomputable def innerB : List MS :=
  [.set 2 (.int 0), .ite (.cmp (.Gt) (.gtup 0 (.var 1)) (.int 0)) [.augVar 2 (.BitOr) (.sub (.attr (.var 0) 6) (.bin (.Sub) (.attr (.var 0) 0) (.int 1)))] [], .ite (.cmp (.Lt) (.gtup 0 (.var 1)) (.int 0)) [.augVar 2 (.BitOr) (.sub (.attr (.var 0) 6) (.int 0))] [], .ite (.cmp (.Gt) (.gtup 1 (.var 1)) (.int 0)) [.augVar 2 (.BitOr) (.sub (.attr (.var 0) 7) (.bin (.Sub) (.attr (.var 0) 1) (.int 1)))] [], .ite (.cmp (.Lt) (.gtup 1 (.var 1)) (.int 0)) [.augVar 2 (.BitOr) (.sub (.attr (.var 0) 7) (.int 0))] [], .ret (.bin (.BitAnd) (.attr (.var 0) 3) (.un (.Invert) (.var 2)))]
noncomputable def raysB : List MS :=
  [.setAttr (.var 0) 9 (.bin (.Mult) (.lst [.int 0]) (.attr (.var 0) 2)), .for_ 1 (.range1 (.int 8)) [.set 2 (.call 3 [.var 0, .var 1]), .set 3 (.bin (.Add) (.bin (.Mult) (.gtup 1 (.var 1)) (.attr (.var 0) 0)) (.gtup 0 (.var 1))), .set 4 (.bin (.Mult) (.lst [.int 0]) (.attr (.var 0) 2)), .set 5 (.range1 (.attr (.var 0) 2)), .ite (.truthy (.call 1 [.var 1])) [.set 5 (.range3 (.bin (.Sub) (.attr (.var 0) 2) (.int 1)) (.un (.USub) (.int 1)) (.un (.USub) (.int 1)))] [], .for_ 6 (.var 5) [.ite (.truthy (.bin (.BitAnd) (.bin (.RShift) (.var 2) (.var 6)) (.int 1))) [.set 7 (.bin (.Add) (.var 6) (.var 3)), .setItem (.var 4) (.var 6) (.bin (.BitOr) (.sub (.var 4) (.var 7)) (.bin (.LShift) (.int 1) (.var 7))), .augItem (.attr (.var 0) 9) (.var 6) (.BitOr) (.bin (.LShift) (.int 1) (.var 7))] []], .expr (.append (.attr (.var 0) 8) (.var 4))]]
noncomputable def pawnsB : List MS :=
  [.for_ 1 (.range1 (.attr (.var 0) 2)) [.expr (.append (.sub (.attr (.var 0) 11) (.int 0)) (.bin (.BitAnd) (.sub (.attr (.var 0) 9) (.var 1)) (.bin (.BitOr) (.sub (.sub (.attr (.var 0) 8) (.int 4)) (.var 1)) (.sub (.sub (.attr (.var 0) 8) (.int 7)) (.var 1))))), .expr (.append (.sub (.attr (.var 0) 11) (.int 1)) (.bin (.BitAnd) (.sub (.attr (.var 0) 9) (.var 1)) (.bin (.BitOr) (.sub (.sub (.attr (.var 0) 8) (.int 5)) (.var 1)) (.sub (.sub (.attr (.var 0) 8) (.int 6)) (.var 1)))))]]
noncomputable def knightsB : List MS :=
  [.set 1 (.attr (.var 0) 0), .set 2 (.bin (.BitAnd) (.attr (.var 0) 3) (.un (.Invert) (.sub (.attr (.var 0) 6) (.int 0)))), .set 3 (.bin (.BitAnd) (.attr (.var 0) 3) (.un (.Invert) (.sub (.attr (.var 0) 6) (.bin (.Sub) (.var 1) (.int 1))))), .set 4 (.bin (.BitAnd) (.var 2) (.un (.Invert) (.sub (.attr (.var 0) 6) (.int 1)))), .set 5 (.bin (.BitAnd) (.var 3) (.un (.Invert) (.sub (.attr (.var 0) 6) (.bin (.Sub) (.var 1) (.int 2))))), .for_ 6 (.range1 (.attr (.var 0) 2)) [.set 7 (.bin (.LShift) (.int 1) (.var 6)), .set 8 (.bin (.BitOr) (.bin (.BitAnd) (.bin (.LShift) (.var 7) (.int 1)) (.var 2)) (.bin (.BitAnd) (.bin (.RShift) (.var 7) (.int 1)) (.var 3))), .set 9 (.bin (.BitOr) (.bin (.BitAnd) (.bin (.LShift) (.var 7) (.int 2)) (.var 4)) (.bin (.BitAnd) (.bin (.RShift) (.var 7) (.int 2)) (.var 5))), .set 10 (.bin (.BitOr) (.bin (.BitOr) (.bin (.BitOr) (.bin (.LShift) (.var 8) (.bin (.Mult) (.int 2) (.var 1))) (.bin (.RShift) (.var 8) (.bin (.Mult) (.int 2) (.var 1)))) (.bin (.LShift) (.var 9) (.var 1))) (.bin (.RShift) (.var 9) (.var 1))), .expr (.append (.attr (.var 0) 10) (.bin (.BitAnd) (.var 10) (.attr (.var 0) 3)))]]
noncomputable def castlesB : List MS :=
  [.setAttr (.var 0) 13 (.bin (.Mult) (.lst [.int 0]) (.attr (.var 0) 2)), .set 1 (.bin (.FloorDiv) (.attr (.var 0) 0) (.int 2)), .for_ 2 (.range1 (.int 4)) [.set 3 (.bin (.Mult) (.bin (.Mult) (.bin (.RShift) (.var 2) (.int 1)) (.bin (.Sub) (.attr (.var 0) 1) (.int 1))) (.attr (.var 0) 0)), .set 4 (.bin (.Sub) (.attr (.var 0) 0) (.int 1)), .set 5 (.int 1), .ite (.truthy (.bin (.BitAnd) (.var 2) (.int 1))) [.set 4 (.int 0), .set 5 (.un (.USub) (.int 1))] [], .set 6 (.bin (.Add) (.var 1) (.bin (.Mult) (.int 2) (.var 5))), .ite (.andB (.truthy (.attr (.var 0) 5)) (.cmp (.Gt) (.bin (.Mult) (.bin (.Sub) (.var 4) (.var 6)) (.var 5)) (.int 0))) [.expr (.append (.attr (.var 0) 12) (.tup [.bin (.Add) (.var 3) (.var 1), .bin (.Add) (.var 3) (.var 6), .bin (.Add) (.var 3) (.var 4), .bin (.Sub) (.bin (.Add) (.var 3) (.var 6)) (.var 5)])), .augItem (.attr (.var 0) 13) (.bin (.Add) (.var 3) (.var 1)) (.BitOr) (.bin (.LShift) (.int 1) (.var 2)), .augItem (.attr (.var 0) 13) (.bin (.Add) (.var 3) (.var 4)) (.BitOr) (.bin (.LShift) (.int 1) (.var 2))] [.expr (.append (.attr (.var 0) 12) (.none))]]]
noncomputable def geoB : List MS :=
  [.ite (.orB (.cmp (.Lt) (.var 0) (.int 2)) (.orB (.cmp (.Gt) (.var 0) (.int 8)) (.orB (.cmp (.Lt) (.var 1) (.int 3)) (.cmp (.Gt) (.var 1) (.int 8))))) [.fail] [], .set 4 (.new [.var 0, .var 1, .var 2, .var 3]), .expr (.call 2 [.var 4]), .expr (.call 4 [.var 4]), .expr (.call 5 [.var 4]), .expr (.call 6 [.var 4]), .expr (.call 7 [.var 4]), .ret (.var 4)]
noncomputable def nearB : List MS :=
  [.set 2 (.lst []), .for_ 3 (.var 1) [.set 4 (.bin (.BitOr) (.sub (.attr (.var 0) 9) (.var 3)) (.bin (.LShift) (.int 1) (.var 3))), .expr (.append (.var 2) (.comp 5 (.range1 (.len (.var 1))) (.cmp (.Eq) (.bin (.BitAnd) (.bin (.RShift) (.var 4) (.sub (.var 1) (.var 5))) (.int 1)) (.int 1)) (.var 5)))], .ret (.var 2)]
noncomputable def solveB : List MS :=
  [.set 3 (.bin (.Mult) (.lst [.glob (-1)]) (.len (.var 1))), .set 4 (.lst []), .set 6 (.comp 10 (.var 1) (.bool true) (.lst [])), .set 7 (.lst []), .for_ 5 (.range1 (.len (.var 1))) [.expr (.append (.var 4) (.len (.sub (.var 1) (.var 5)))), .for_ 8 (.sub (.var 1) (.var 5)) [.ite (.cmp (.NotEq) (.var 8) (.glob (-1))) [.expr (.append (.sub (.var 6) (.var 8)) (.var 5))] []], .ite (.truthy (.sub (.var 2) (.var 5))) [.setItem (.var 3) (.var 5) (.int 0), .expr (.append (.var 7) (.var 5))] []], .set 9 (.int 0), .whl (.cmp (.Lt) (.var 9) (.len (.var 7))) [.set 8 (.sub (.var 7) (.var 9)), .augVar 9 (.Add) (.int 1), .for_ 5 (.sub (.var 6) (.var 8)) [.augItem (.var 4) (.var 5) (.Sub) (.int 1), .ite (.andB (.cmp (.Eq) (.sub (.var 3) (.var 5)) (.glob (-1))) (.orB (.cmp (.Eq) (.sub (.var 0) (.var 5)) (.glob 0)) (.cmp (.Eq) (.sub (.var 4) (.var 5)) (.int 0)))) [.setItem (.var 3) (.var 5) (.bin (.Add) (.sub (.var 3) (.var 8)) (.int 1)), .expr (.append (.var 7) (.var 5))] []]], .ret (.var 3)]
noncomputable def foldsB : List MS :=
  [.set 1 (.listOf (.range1 (.len (.var 0)))), .whl (.cmp (.Gt) (.len (.var 1)) (.int 1)) [.set 2 (.un (.USub) (.int 1)), .for_ 3 (.var 1) [.for_ 4 (.var 1) [.ite (.andB (.cmp (.NotEq) (.var 4) (.var 3)) (.cmp (.Eq) (.comp 5 (.sub (.var 0) (.var 3)) (.andB (.cmp (.In) (.var 5) (.var 1)) (.cmp (.NotIn) (.var 5) (.sub (.var 0) (.var 4)))) (.var 5)) (.lst []))) [.set 2 (.var 3)] []]], .ite (.cmp (.Lt) (.var 2) (.int 0)) [.ret (.bool false)] [], .set 1 (.comp 5 (.var 1) (.cmp (.NotEq) (.var 5) (.var 2)) (.var 5))], .ret (.bool true)]
noncomputable def wholeB : List MS :=
  [.set 1 (.lst [.int 0]), .for_ 2 (.var 1) [.expr (.extend (.var 1) (.comp 3 (.sub (.var 0) (.var 2)) (.cmp (.NotIn) (.var 3) (.var 1)) (.var 3)))], .ret (.cmp (.Eq) (.len (.var 1)) (.len (.var 0)))]
noncomputable def lawB : List MS :=
  [.set 1 (.bin (.Add) (.slice (.var 0) (.none) (.int 2)) (.slice (.lst [.int 1, .int 123]) (.len (.slice (.var 0) (.none) (.int 2))) (.none))), .set 2 (.bin (.Add) (.int 2) (.bin (.Mod) (.sub (.var 1) (.int 0)) (.int 2))), .set 3 (.bin (.Add) (.int 1) (.bin (.Mod) (.sub (.var 1) (.int 1)) (.bin (.Sub) (.bin (.Pow) (.int 2) (.bin (.Mult) (.int 3) (.var 2))) (.int 1)))), .ite (.cmp (.Eq) (.var 3) (.int 511)) [.set 3 (.int 495)] [], .set 4 (.call 8 [.var 2, .int 3, .bool false, .bool false]), .set 5 (.call 9 [.var 4, .comp 17 (.range1 (.bin (.Mult) (.int 3) (.var 2))) (.cmp (.Eq) (.bin (.BitAnd) (.bin (.RShift) (.var 3) (.var 17)) (.int 1)) (.int 1)) (.var 17)]), .set 6 (.len (.var 5)), .setTupR [7, 8, 9] (.tup [.lst [], .lst [], .lst []]), .for_ 10 (.tup [.glob 0, .glob 1]) [.for_ 11 (.range1 (.var 6)) [.for_ 12 (.range1 (.var 6)) [.expr (.append (.var 7) (.var 10)), .set 13 (.ite (.cmp (.Eq) (.var 10) (.glob 0)) (.comp 17 (.sub (.var 5) (.var 11)) (.bool true) (.bin (.Add) (.bin (.Mult) (.var 17) (.var 6)) (.var 12))) (.comp 17 (.sub (.var 5) (.var 12)) (.bool true) (.bin (.Add) (.bin (.Mult) (.var 11) (.var 6)) (.var 17)))), .expr (.append (.var 8) (.comp 17 (.var 13) (.bool true) (.bin (.Add) (.var 17) (.ite (.cmp (.Eq) (.var 10) (.glob 0)) (.bin (.Mult) (.var 6) (.var 6)) (.int 0))))), .expr (.append (.var 9) (.cmp (.Eq) (.var 11) (.var 12)))]]], .set 14 (.call 10 [.var 7, .var 8, .var 9]), .ite (.andB (.truthy (.call 11 [.var 5])) (.notB (.truthy (.call 12 [.var 5])))) [.ret (.bool false)] [], .for_ 11 (.range1 (.var 6)) [.set 15 (.slice (.var 14) (.bin (.Mult) (.var 11) (.var 6)) (.bin (.Add) (.bin (.Mult) (.var 11) (.var 6)) (.var 6))), .ite (.cmp (.NotEq) (.cmp (.GtE) (.min (.var 15)) (.int 0)) (.call 11 [.var 5])) [.ret (.bool false)] []], .for_ 16 (.range1 (.len (.var 14))) [.setTup [11, 12] (.tup [.bin (.Mod) (.bin (.FloorDiv) (.var 16) (.var 6)) (.var 6), .bin (.Mod) (.var 16) (.var 6)]), .ite (.orB (.andB (.cmp (.Eq) (.var 11) (.var 12)) (.cmp (.NotEq) (.sub (.var 14) (.var 16)) (.int 0))) (.andB (.cmp (.NotEq) (.var 11) (.var 12)) (.andB (.cmp (.GtE) (.sub (.var 14) (.var 16)) (.int 0)) (.cmp (.NotEq) (.bin (.Mod) (.sub (.var 14) (.var 16)) (.int 2)) (.intOf (.cmp (.Lt) (.var 16) (.bin (.Mult) (.var 6) (.var 6)))))))) [.ret (.bool false)] []], .ret (.bool true)]
noncomputable def myFns : List Fn := [⟨5, 1, initB⟩, ⟨1, 1, growB⟩, ⟨1, 5, masksB⟩, ⟨2, 2, innerB⟩, ⟨1, 8, raysB⟩, ⟨1, 2, pawnsB⟩, ⟨1, 11, knightsB⟩, ⟨1, 7, castlesB⟩, ⟨4, 2, geoB⟩, ⟨2, 4, nearB⟩, ⟨3, 8, solveB⟩, ⟨1, 5, foldsB⟩, ⟨1, 3, wholeB⟩, ⟨1, 17, lawB⟩]
theorem fns_eq : theFns = myFns := by kernel_rfl
end Mine

-- N2
/-! The geometry of the two boards, by the kernel's evaluation. -/
namespace Mine
open PySem
noncomputable def geoSt2 : St := [.dct [(0, .int 2), (1, .int 3), (2, .int 6), (3, .int 63), (4, .bool false), (5, .bool false), (6, .ref 7), (7, .ref 8), (8, .ref 9), (9, .ref 20), (10, .ref 11), (11, .ref 14), (12, .ref 15), (13, .ref 53)], .inst 5, .lst [.int 21, .int 42], .lst [.int 3, .int 12, .int 48], .lst [.ref 23, .ref 27, .ref 31, .ref 34, .ref 37, .ref 41, .ref 44, .ref 47], .lst [], .lst [.int 32, .int 16, .int 0, .int 0, .int 2, .int 1], .lst [.int 8, .int 4, .int 32, .int 16, .int 0, .int 0], .lst [.int 0, .int 0, .int 2, .int 1, .int 8, .int 4], .lst [.ref 12, .ref 13], .lst [.none, .none, .none, .none], .lst [], .rng 0 3 1, .rng 0 2 1, .lst [.int 0], .lst [.int 14, .int 13, .int 59, .int 55, .int 44, .int 28], .rng 0 8 1, .lst [.int 0], .lst [.int 20, .int 40, .int 16, .int 32, .int 0, .int 0], .rng 0 6 1, .rng 5 (-1) (-1), .lst [.int 0], .lst [.int 2, .int 0, .int 8, .int 0, .int 32, .int 0], .rng 0 6 1, .rng 5 (-1) (-1), .lst [.int 0], .lst [.int 0, .int 0, .int 1, .int 2, .int 5, .int 10], .rng 0 6 1, .lst [.int 0], .lst [.int 0, .int 1, .int 0, .int 4, .int 0, .int 16], .rng 0 6 1, .lst [.int 0], .lst [.int 8, .int 0, .int 32, .int 0, .int 0, .int 0], .rng 0 6 1, .rng 5 (-1) (-1), .lst [.int 0], .lst [.int 0, .int 0, .int 2, .int 0, .int 8, .int 0], .rng 0 6 1, .lst [.int 0], .lst [.int 0, .int 0, .int 0, .int 1, .int 0, .int 4], .rng 0 6 1, .lst [.int 0], .lst [.int 0, .int 4, .int 0, .int 16, .int 0, .int 0], .rng 0 6 1, .rng 5 (-1) (-1), .rng 0 6 1, .rng 0 6 1, .lst [.int 0], .lst [.int 0, .int 0, .int 0, .int 0, .int 0, .int 0], .rng 0 4 1]
theorem geo2 (o0 o1 o2 o3 o4 : O) (scr : List Int) : run myFns 2000 scr theTups 5 8 [.int 2, .int 3, .bool false, .bool false] [o0, o1, o2, o3, o4] = some (.ref 6, [o0, o1, o2, o3, o4] ++ geoSt2) := by kernel_rfl
noncomputable def geoSt3 : St := [.dct [(0, .int 3), (1, .int 3), (2, .int 9), (3, .int 511), (4, .bool false), (5, .bool false), (6, .ref 7), (7, .ref 8), (8, .ref 9), (9, .ref 20), (10, .ref 11), (11, .ref 14), (12, .ref 15), (13, .ref 53)], .inst 5, .lst [.int 73, .int 146, .int 292], .lst [.int 7, .int 56, .int 448], .lst [.ref 23, .ref 27, .ref 31, .ref 34, .ref 37, .ref 41, .ref 44, .ref 47], .lst [], .lst [.int 160, .int 320, .int 136, .int 260, .int 0, .int 65, .int 34, .int 5, .int 10], .lst [.int 16, .int 40, .int 16, .int 128, .int 320, .int 128, .int 0, .int 0, .int 0], .lst [.int 0, .int 0, .int 0, .int 2, .int 5, .int 2, .int 16, .int 40, .int 16], .lst [.ref 12, .ref 13], .lst [.none, .none, .none, .none], .lst [], .rng 0 3 1, .rng 0 3 1, .lst [.int 0], .lst [.int 26, .int 61, .int 50, .int 211, .int 495, .int 406, .int 152, .int 376, .int 176], .rng 0 8 1, .lst [.int 0], .lst [.int 72, .int 144, .int 288, .int 64, .int 128, .int 256, .int 0, .int 0, .int 0], .rng 0 9 1, .rng 8 (-1) (-1), .lst [.int 0], .lst [.int 6, .int 4, .int 0, .int 48, .int 32, .int 0, .int 384, .int 256, .int 0], .rng 0 9 1, .rng 8 (-1) (-1), .lst [.int 0], .lst [.int 0, .int 0, .int 0, .int 1, .int 2, .int 4, .int 9, .int 18, .int 36], .rng 0 9 1, .lst [.int 0], .lst [.int 0, .int 1, .int 3, .int 0, .int 8, .int 24, .int 0, .int 64, .int 192], .rng 0 9 1, .lst [.int 0], .lst [.int 272, .int 32, .int 0, .int 128, .int 256, .int 0, .int 0, .int 0, .int 0], .rng 0 9 1, .rng 8 (-1) (-1), .lst [.int 0], .lst [.int 0, .int 0, .int 0, .int 2, .int 4, .int 0, .int 20, .int 32, .int 0], .rng 0 9 1, .lst [.int 0], .lst [.int 0, .int 0, .int 0, .int 0, .int 1, .int 2, .int 0, .int 8, .int 17], .rng 0 9 1, .lst [.int 0], .lst [.int 0, .int 8, .int 80, .int 0, .int 64, .int 128, .int 0, .int 0, .int 0], .rng 0 9 1, .rng 8 (-1) (-1), .rng 0 9 1, .rng 0 9 1, .lst [.int 0], .lst [.int 0, .int 0, .int 0, .int 0, .int 0, .int 0, .int 0, .int 0, .int 0], .rng 0 4 1]
theorem geo3 (o0 o1 o2 o3 o4 : O) (scr : List Int) : run myFns 2000 scr theTups 5 8 [.int 3, .int 3, .bool false, .bool false] [o0, o1, o2, o3, o4] = some (.ref 6, [o0, o1, o2, o3, o4] ++ geoSt3) := by kernel_rfl
end Mine

-- N3
/-! Loops of the evaluator, in plain Lean. -/
namespace Mine
open PySem

theorem forI_ok {body : List V → St → Option (Fl × List V × St)} {slot j : Nat} {o : O} (Inv : Nat → List V → St → Prop) (L : Nat)
    (hitem : ∀ i fr st, Inv i fr st → i < L → ∃ v, nextItem st j o i = some (some v) ∧ ∃ fr' st', body (fr.set slot v) st = some (.next, fr', st') ∧ Inv (i + 1) fr' st')
    (hend : ∀ fr st, Inv L fr st → nextItem st j o L = some none) :
    ∀ n i fr st, i ≤ L → L - i < n → Inv i fr st → ∃ fr' st', forI body slot j o n i fr st = some (.next, fr', st') ∧ Inv L fr' st' := by
  intro n
  induction n with
  | zero => intro i fr st _ h; omega
  | succ n ih =>
    intro i fr st hi hn h
    by_cases hl : i = L
    · subst hl
      exact ⟨fr, st, by unfold forI; rw [hend fr st h], h⟩
    · obtain ⟨v, h1, fr1, st1, h2, h3⟩ := hitem i fr st h (by omega)
      obtain ⟨fr2, st2, h4, h5⟩ := ih (i + 1) fr1 st1 (by omega) (by omega) h3
      exact ⟨fr2, st2, by unfold forI; rw [h1]; simp only [h2]; exact h4, h5⟩

theorem compI_pure {step : V → St → Option (Option V × St)} {j : Nat} {o : O} {xs : List V} {p : V → Bool} {f : V → V} {st : St} (hl : xs.length < lim)
    (hitem : ∀ i acc, nextItem (st ++ [.lst acc]) j o i = some xs[i]?) (hs : ∀ v ∈ xs, ∀ acc, step v (st ++ [.lst acc]) = some (if p v then some (f v) else none, st ++ [.lst acc])) :
    ∀ n i acc, i ≤ xs.length → xs.length - i < n → acc.length ≤ i → compI step j o st.length n i (st ++ [.lst acc]) = some (st ++ [.lst (acc ++ (((xs.drop i).filter p).map f))]) := by
  intro n
  induction n with
  | zero => intro i acc _ h; omega
  | succ n ih =>
    intro i acc hi hn ha
    unfold compI
    rw [hitem]
    by_cases hl' : i < xs.length
    · rw [List.getElem?_eq_getElem hl']
      simp only [hs _ (List.getElem_mem hl')]
      have hd : xs.drop i = xs[i] :: xs.drop (i + 1) := List.drop_eq_getElem_cons hl'
      cases hp : p xs[i] with
      | false =>
        simp only [Bool.false_eq_true, if_false]
        rw [ih (i + 1) acc (by omega) (by omega) (by omega), hd, List.filter_cons_of_neg (by rw [hp]; simp)]
      | true =>
        simp only [if_true]
        have hpush : pushV (st ++ [.lst acc]) st.length (f xs[i]) = some (st ++ [.lst (acc ++ [f xs[i]])]) := by
          unfold pushV
          simp only [List.getElem?_concat_length]
          rw [if_pos (by omega)]
          simp
        rw [hpush]
        simp only
        rw [ih (i + 1) _ (by omega) (by omega) (by simp; omega), hd, List.filter_cons_of_pos hp]
        simp
    · rw [List.getElem?_eq_none (by omega), List.drop_of_length_le (by omega)]
      simp

theorem comp_list {step : V → St → Option (Option V × St)} {j : Nat} {xs : List V} {p : V → Bool} {f : V → V} {st : St} {N : Nat} (hj : st[j]? = some (.lst xs)) (hl : xs.length < lim) (hN : xs.length < N)
    (hs : ∀ v ∈ xs, ∀ acc, step v (st ++ [.lst acc]) = some (if p v then some (f v) else none, st ++ [.lst acc])) :
    compI step j (.lst xs) st.length N 0 (st ++ [.lst []]) = some (st ++ [.lst ((xs.filter p).map f)]) := by
  have hlt := (List.getElem?_eq_some_iff.mp hj).1
  have := compI_pure (o := .lst xs) (j := j) hl (fun i acc => by
    unfold nextItem
    simp only [List.getElem?_append_left hlt, hj]) hs N 0 [] (by omega) (by omega) (by simp)
  simpa using this

theorem comp_range {step : V → St → Option (Option V × St)} {j n : Nat} {p : V → Bool} {f : V → V} {st : St} {N : Nat} (hl : n < lim) (hN : n < N)
    (hs : ∀ i : Nat, i < n → ∀ acc, step (.int i) (st ++ [.lst acc]) = some (if p (.int i) then some (f (.int i)) else none, st ++ [.lst acc])) :
    compI step j (.rng 0 n 1) st.length N 0 (st ++ [.lst []]) = some (st ++ [.lst ((((List.range n).map fun i : Nat => V.int (i : Int)).filter p).map f)]) := by
  have hr : rngLen 0 n 1 = n := by
    unfold rngLen Builtin.Range.rangeSize
    rw [if_pos (by decide)]
    split
    · simp
    · omega
  have := compI_pure (o := .rng 0 n 1) (j := j) (xs := (List.range n).map fun i : Nat => V.int (i : Int)) (by simpa using hl) (fun i acc => by
    unfold nextItem
    simp only [hr]
    by_cases h : i < n
    · rw [if_pos h]; simp [h]
    · rw [if_neg h]; simp [h]) (fun v hv acc => by
      obtain ⟨i, hi, rfl⟩ := List.mem_map.mp hv
      exact hs i (List.mem_range.mp hi) acc) N 0 [] (by omega) (by simpa using hN) (by simp)
  simpa using this

theorem rngLen_up (n : Nat) : rngLen 0 n 1 = n := by
  unfold rngLen Builtin.Range.rangeSize
  rw [if_pos (by decide)]
  split
  · simp
  · omega

theorem for_vals {body : List V → St → Option (Fl × List V × St)} {slot j : Nat} {o : O} {xs : List V} {n : Nat} (P : Nat → List V → St → Prop) (hn : xs.length < n)
    (hnext : ∀ i fr st, P i fr st → nextItem st j o i = some xs[i]?)
    (hstep : ∀ i (h : i < xs.length) fr st, P i fr st → ∃ fr' st', body (fr.set slot xs[i]) st = some (.next, fr', st') ∧ P (i + 1) fr' st')
    (fr : List V) (st : St) (h : P 0 fr st) : ∃ fr' st', forI body slot j o n 0 fr st = some (.next, fr', st') ∧ P xs.length fr' st' := by
  apply forI_ok P xs.length _ _ n 0 fr st (by omega) (by omega) h
  · intro i fr st h1 h2
    exact ⟨xs[i], by rw [hnext i fr st h1, List.getElem?_eq_getElem h2], hstep i h2 fr st h1⟩
  · intro fr st h1
    rw [hnext _ fr st h1, List.getElem?_eq_none (by omega)]

theorem for_range {body : List V → St → Option (Fl × List V × St)} {slot j : Nat} {m n : Nat} (P : Nat → List V → St → Prop) (hn : m < n)
    (hstep : ∀ i, i < m → ∀ fr st, P i fr st → ∃ fr' st', body (fr.set slot (.int (i : Int))) st = some (.next, fr', st') ∧ P (i + 1) fr' st')
    (fr : List V) (st : St) (h : P 0 fr st) : ∃ fr' st', forI body slot j (.rng 0 m 1) n 0 fr st = some (.next, fr', st') ∧ P m fr' st' := by
  apply forI_ok P m _ _ n 0 fr st (by omega) (by omega) h
  · intro i fr st h1 h2
    refine ⟨.int (i : Int), ?_, hstep i h2 fr st h1⟩
    simp [nextItem, rngLen_up, h2]
  · intro fr st h1
    simp [nextItem, rngLen_up]

theorem whl_ok {cond : List V → St → Option (V × St)} {body : List V → St → Option (Fl × List V × St)} (I : Nat → List V → St → Prop) (Q : Fl × List V × St → Prop)
    (h : ∀ m fr st, I m fr st → ∃ b st1, cond fr st = some (.bool b, st1) ∧ (b = false → Q (.next, fr, st1)) ∧
      (b = true → ∃ f fr' st', body fr st1 = some (f, fr', st') ∧ ((f = .next ∧ ∃ m', m' < m ∧ I m' fr' st') ∨ (∃ v, f = .ret v ∧ Q (.ret v, fr', st'))))) :
    ∀ n m fr st, I m fr st → m < n → ∃ r, whlI cond body n fr st = some r ∧ Q r := by
  intro n
  induction n with
  | zero => intro m fr st _ h; omega
  | succ n ih =>
    intro m fr st hI hm
    obtain ⟨b, st1, h1, h2, h3⟩ := h m fr st hI
    unfold whlI
    rw [h1]
    cases b with
    | false => exact ⟨_, rfl, h2 rfl⟩
    | true =>
      obtain ⟨f, fr', st', h4, h5⟩ := h3 rfl
      simp only [h4]
      rcases h5 with ⟨rfl, m', hm', hI'⟩ | ⟨v, rfl, hQ⟩
      · exact ih m' fr' st' hI' (by omega)
      · exact ⟨_, rfl, hQ⟩

noncomputable abbrev natL (l : List Nat) : List V := l.map fun n : Nat => V.int (n : Int)

/-- a list of lists of numbers -/
noncomputable def Rows (st : St) (k : Nat) (rows : List (List Nat)) : Prop :=
  ∃ ks : List Nat, st[k]? = some (.lst (ks.map V.ref)) ∧ ks.length = rows.length ∧ ∀ (i : Nat) r, rows[i]? = some r → ∃ kk, ks[i]? = some kk ∧ st[kk]? = some (.lst (natL r))
theorem Rows.append {st : St} {k : Nat} {rows : List (List Nat)} (h : Rows st k rows) (ext : St) : Rows (st ++ ext) k rows := by
  obtain ⟨ks, h1, h2, h3⟩ := h
  refine ⟨ks, ?_, h2, fun i r hr => ?_⟩
  · rw [List.getElem?_append_left (List.getElem?_eq_some_iff.mp h1).1]; exact h1
  · obtain ⟨kk, h4, h5⟩ := h3 i r hr
    exact ⟨kk, h4, by rw [List.getElem?_append_left (List.getElem?_eq_some_iff.mp h5).1]; exact h5⟩
theorem app_get {st ext : St} {k : Nat} {o : O} (h : st[k]? = some o) : (st ++ ext)[k]? = some o := by
  rw [List.getElem?_append_left (List.getElem?_eq_some_iff.mp h).1]; exact h
/-- frozen below -/
theorem ext_of {st st' : St} (h : ∀ i, i < st.length → st'[i]? = st[i]?) : ∃ ext, st' = st ++ ext := by
  refine ⟨st'.drop st.length, ?_⟩
  apply List.ext_getElem?
  intro i
  by_cases hi : i < st.length
  · rw [List.getElem?_append_left hi]; exact h i hi
  · rw [List.getElem?_append_right (by omega), List.getElem?_drop]
    congr 1; omega
end Mine

-- N4
/-! near -/
namespace Mine
open PySem

theorem exs_cons {c : Cfg} {s : MS} {r : List MS} {fr fr' : List V} {st st' : St} {res} (h : ex c s fr st = some (.next, fr', st')) (h2 : exs c r fr' st' = res) : exs c (s :: r) fr st = res := by
  simp only [exsq_nil, exsq_cons, h, Option.bind_some]; exact h2
theorem exs_ret {c : Cfg} {s : MS} {r : List MS} {fr fr' : List V} {st st' : St} {v : V} (h : ex c s fr st = some (.ret v, fr', st')) : exs c (s :: r) fr st = some (.ret v, fr', st') := by
  simp only [exsq_nil, exsq_cons, h, Option.bind_some]
theorem exs_nil {c : Cfg} {fr : List V} {st : St} : exs c [] fr st = some (.next, fr, st) := by simp only [exsq_nil, exsq_cons]
theorem ex_set {c : Cfg} {i : Nat} {e : ME} {fr : List V} {st st' : St} {v : V} (h : ev c e fr st = some (v, st')) : ex c (.set i e) fr st = some (.next, fr.set i v, st') := by
  simp only [exq_fail, exq_set, exq_setTup, exq_setTupR, exq_setItem, exq_setAttr, exq_augVar, exq_augItem, exq_expr, exq_ret, exq_ite, exq_for_, exq_whl, h, Option.map_some]
theorem ex_expr {c : Cfg} {e : ME} {fr : List V} {st st' : St} {v : V} (h : ev c e fr st = some (v, st')) : ex c (.expr e) fr st = some (.next, fr, st') := by
  simp only [exq_fail, exq_set, exq_setTup, exq_setTupR, exq_setItem, exq_setAttr, exq_augVar, exq_augItem, exq_expr, exq_ret, exq_ite, exq_for_, exq_whl, h, Option.map_some]
theorem ex_ret {c : Cfg} {e : ME} {fr : List V} {st st' : St} {v : V} (h : ev c e fr st = some (v, st')) : ex c (.ret e) fr st = some (.ret v, fr, st') := by
  simp only [exq_fail, exq_set, exq_setTup, exq_setTupR, exq_setItem, exq_setAttr, exq_augVar, exq_augItem, exq_expr, exq_ret, exq_ite, exq_for_, exq_whl, h, Option.map_some]
theorem ex_for {c : Cfg} {i : Nat} {it : ME} {b : List MS} {fr : List V} {st st1 : St} {k : Nat} {o : O} {r} (h : ev c it fr st = some (.ref k, st1)) (ho : st1[k]? = some o) (hf : forI (fun fr st => exs c b fr st) i k o c.N 0 fr st1 = r) : ex c (.for_ i it b) fr st = r := by
  simp only [exq_fail, exq_set, exq_setTup, exq_setTupR, exq_setItem, exq_setAttr, exq_augVar, exq_augItem, exq_expr, exq_ret, exq_ite, exq_for_, exq_whl, h, Option.bind_some, srcOf, ho, Option.map_some]; exact hf
theorem ex_ite {c : Cfg} {t : ME} {a b : List MS} {fr : List V} {st st1 : St} {x : Bool} {r} (h : ev c t fr st = some (.bool x, st1)) (hf : (if x then exs c a fr st1 else exs c b fr st1) = r) : ex c (.ite t a b) fr st = r := by
  simp only [exq_fail, exq_set, exq_setTup, exq_setTupR, exq_setItem, exq_setAttr, exq_augVar, exq_augItem, exq_expr, exq_ret, exq_ite, exq_for_, exq_whl, h, Option.bind_some]; cases x <;> simpa using hf
theorem ev_append {c : Cfg} {a x : ME} {fr : List V} {st st1 st2 st3 : St} {k : Nat} {v : V} {xs : List V} (ha : ev c a fr st = some (.ref k, st1)) (hk : st1[k]? = some (.lst xs)) (hx : ev c x fr st1 = some (v, st2)) (hp : pushV st2 k v = some st3) : ev c (.append a x) fr st = some (.none, st3) := by
  simp only [evq_fail, evq_int, evq_bool, evq_none, evq_var, evq_glob, evq_gtup, evq_bin, evq_un, evq_cmp, evq_ite, evq_notB, evq_andB, evq_orB, evq_truthy, evq_andV, evq_orV, evq_lst, evq_tup, evq_comp, evq_len, evq_range1, evq_range3, evq_listOf, evq_min, evq_intOf, evq_call, evq_new, evq_append, evq_extend, evq_attr, evq_sub, evq_slice, ha, Option.bind_some, lenV, hk, Option.isSome_some, if_true, hx, hp, Option.map_some]
theorem pushV_ok {st : St} {k : Nat} {xs : List V} {v : V} (h : st[k]? = some (.lst xs)) (hl : xs.length < 10000) : pushV st k v = some (st.set k (.lst (xs ++ [v]))) := by
  unfold pushV; rw [h]; simp only; rw [if_pos (by unfold lim; omega)]

theorem ev_comp_range (c : Cfg) {slot : Nat} {iter cond elt : ME} {fr : List V} {st st1 : St} {j n : Nat} {p : Nat → Bool} {f : Nat → V} (hN : n < c.N) (hl : n < lim) (hit : ev c iter fr st = some (.ref j, st1)) (hj : st1[j]? = some (.rng 0 n 1))
    (hc : ∀ i : Nat, i < n → ∀ acc, ev c cond (fr.set slot (.int i)) (st1 ++ [.lst acc]) = some (.bool (p i), st1 ++ [.lst acc]))
    (he : ∀ i : Nat, i < n → p i = true → ∀ acc, ev c elt (fr.set slot (.int i)) (st1 ++ [.lst acc]) = some (f i, st1 ++ [.lst acc])) :
    ev c (.comp slot iter cond elt) fr st = some (.ref st1.length, st1 ++ [.lst (((List.range n).filter p).map f)]) := by
  have := comp_range (step := fun v st => (ev c cond (fr.set slot v) st).bind fun q => match q.1 with
        | .bool true => (ev c elt (fr.set slot v) q.2).map fun r => (some r.1, r.2)
        | .bool false => some (none, q.2)
        | _ => none) (j := j) (n := n) (st := st1) (N := c.N) (p := fun v => match v with | .int j => p j.toNat | _ => false) (f := fun v => match v with | .int j => f j.toNat | _ => .none) hl hN (by
      intro i hi acc
      simp only [hc i hi acc, Option.bind_some, Int.toNat_natCast]
      cases hp : p i with
      | true => simp [he i hi hp acc]
      | false => simp)
  simp only [evq_fail, evq_int, evq_bool, evq_none, evq_var, evq_glob, evq_gtup, evq_bin, evq_un, evq_cmp, evq_ite, evq_notB, evq_andB, evq_orB, evq_truthy, evq_andV, evq_orV, evq_lst, evq_tup, evq_comp, evq_len, evq_range1, evq_range3, evq_listOf, evq_min, evq_intOf, evq_call, evq_new, evq_append, evq_extend, evq_attr, evq_sub, evq_slice, hit, Option.bind_some, srcOf, hj, Option.map_some]
  refine (congrArg (Option.map fun st' => (V.ref st1.length, st')) this).trans ?_
  rw [List.filter_map, List.map_map]
  rfl

theorem ev_comp_list (c : Cfg) {slot : Nat} {iter cond elt : ME} {fr : List V} {st st1 : St} {j : Nat} {xs : List Nat} {p : Nat → Bool} {f : Nat → V} (hN : xs.length < c.N) (hl : xs.length < lim) (hit : ev c iter fr st = some (.ref j, st1)) (hj : st1[j]? = some (.lst (natL xs)))
    (hc : ∀ i ∈ xs, ∀ acc, ev c cond (fr.set slot (.int (i : Nat))) (st1 ++ [.lst acc]) = some (.bool (p i), st1 ++ [.lst acc]))
    (he : ∀ i ∈ xs, p i = true → ∀ acc, ev c elt (fr.set slot (.int (i : Nat))) (st1 ++ [.lst acc]) = some (f i, st1 ++ [.lst acc])) :
    ev c (.comp slot iter cond elt) fr st = some (.ref st1.length, st1 ++ [.lst ((xs.filter p).map f)]) := by
  have := comp_list (step := fun v st => (ev c cond (fr.set slot v) st).bind fun q => match q.1 with
        | .bool true => (ev c elt (fr.set slot v) q.2).map fun r => (some r.1, r.2)
        | .bool false => some (none, q.2)
        | _ => none) (j := j) (st := st1) (N := c.N) (p := fun v => match v with | .int j => p j.toNat | _ => false) (f := fun v => match v with | .int j => f j.toNat | _ => .none) hj (by simpa using hl) (by simpa using hN) (by
      intro v hv acc
      obtain ⟨i, hi, rfl⟩ := List.mem_map.mp hv
      simp only [hc i hi acc, Option.bind_some, Int.toNat_natCast]
      cases hp : p i with
      | true => simp [he i hi hp acc]
      | false => simp)
  simp only [evq_fail, evq_int, evq_bool, evq_none, evq_var, evq_glob, evq_gtup, evq_bin, evq_un, evq_cmp, evq_ite, evq_notB, evq_andB, evq_orB, evq_truthy, evq_andV, evq_orV, evq_lst, evq_tup, evq_comp, evq_len, evq_range1, evq_range3, evq_listOf, evq_min, evq_intOf, evq_call, evq_new, evq_append, evq_extend, evq_attr, evq_sub, evq_slice, hit, Option.bind_some, srcOf, hj, Option.map_some]
  refine (congrArg (Option.map fun st' => (V.ref st1.length, st')) this).trans ?_
  rw [List.filter_map, List.map_map]
  rfl

noncomputable def nearF (adj : Nat → Nat → Bool) (sq : List Nat) : List (List Nat) :=
  (List.range sq.length).map fun i => (List.range sq.length).filter fun j => adj (sq.getD i 0) (sq.getD j 0)

theorem len_set_slot (fr : List V) (s : Nat) (v : V) : (fr.set s v).length = fr.length := List.length_set ..

/-- one row of near -/
theorem near_step (c : Cfg) (hN : c.N = 2000) {fr : List V} {st : St} {g q b : Nat} {sq : List Nat} {k : Nat} {kl : List Int} {adj : Nat → Nat → Bool} {refs : List V} {i : Nat} {x4 x5 : V} {s : Nat}
    (hfr : fr = [.ref g, .ref q, .ref b, .int s, x4, x5]) (hk : attrV st (.ref g) 9 = some (.ref k)) (hkl : st[k]? = some (.lst (kl.map V.int)))
    (hq : st[q]? = some (.lst (natL sq))) (hb : st[b]? = some (.lst refs)) (hs : sq[i]? = some s) (hsq : sq.length < 100) (hrefs : refs.length < 100)
    (hadj : ∀ s ∈ sq, s < 100 ∧ ∃ ks, kl[s]? = some ks ∧ ks.natAbs < 2 ^ 64 ∧ ∀ t ∈ sq, (Builtin.bitAnd ((Builtin.bitOr ks (1 * 2 ^ s)).fdiv (2 ^ t)) 1 == 1) = adj s t) :
    ∃ fr', exs c [.set 4 (.bin (.BitOr) (.sub (.attr (.var 0) 9) (.var 3)) (.bin (.LShift) (.int 1) (.var 3))), .expr (.append (.var 2) (.comp 5 (.range1 (.len (.var 1))) (.cmp (.Eq) (.bin (.BitAnd) (.bin (.RShift) (.var 4) (.sub (.var 1) (.var 5))) (.int 1)) (.int 1)) (.var 5)))] fr st
      = some (.next, fr', (st ++ [O.rng 0 sq.length 1, O.lst (natL ((List.range sq.length).filter fun j => adj s (sq.getD j 0)))]).set b (O.lst (refs ++ [V.ref (st.length + 1)])))
      ∧ ∃ y4, fr' = [.ref g, .ref q, .ref b, .int s, y4, x5] := by
  obtain ⟨hs1, ks, h1, h2, h3⟩ := hadj s (List.mem_of_getElem? hs)
  subst hfr
  have hsn : ((s : Int) ≤ 1000) := by omega
  have hkl' : (kl.map V.int)[s]? = some (.int ks) := by simp [h1]
  have hql : smallI (sq.length : Int) = true := by simp [smallI]; omega
  have hcomp : ev c (.comp 5 (.range1 (.len (.var 1))) (.cmp (.Eq) (.bin (.BitAnd) (.bin (.RShift) (.var 4) (.sub (.var 1) (.var 5))) (.int 1)) (.int 1)) (.var 5)) [.ref g, .ref q, .ref b, .int s, .int (Builtin.bitOr ks (1 * 2 ^ s)), x5] st = some (.ref (st.length + 1), st ++ [O.rng 0 sq.length 1, O.lst (natL ((List.range sq.length).filter fun j => adj s (sq.getD j 0)))]) := by
    have := ev_comp_range c (slot := 5) (iter := .range1 (.len (.var 1))) (cond := .cmp (.Eq) (.bin (.BitAnd) (.bin (.RShift) (.var 4) (.sub (.var 1) (.var 5))) (.int 1)) (.int 1)) (elt := .var 5) (fr := [.ref g, .ref q, .ref b, .int s, .int (Builtin.bitOr ks (1 * 2 ^ s)), x5]) (st := st) (st1 := st ++ [.rng 0 sq.length 1]) (j := st.length) (n := sq.length) (p := fun j => adj s (sq.getD j 0)) (f := fun n => V.int (n : Int)) (by omega) (by unfold lim; omega)
      (by simp only [evq_fail, evq_int, evq_bool, evq_none, evq_var, evq_glob, evq_gtup, evq_bin, evq_un, evq_cmp, evq_ite, evq_notB, evq_andB, evq_orB, evq_truthy, evq_andV, evq_orV, evq_lst, evq_tup, evq_comp, evq_len, evq_range1, evq_range3, evq_listOf, evq_min, evq_intOf, evq_call, evq_new, evq_append, evq_extend, evq_attr, evq_sub, evq_slice, getV, List.getElem?_cons_zero, List.getElem?_cons_succ, Option.map_some, Option.bind_some, lenV, hq, List.length_map, hql, if_true])
      (by simp) (by
        intro i hi acc
        have ht : sq[i]? = some sq[i] := List.getElem?_eq_getElem hi
        have hq' : ((st ++ [O.rng 0 sq.length 1]) ++ [O.lst acc])[q]? = some (.lst (natL sq)) := app_get (app_get hq)
        have hqi : (natL sq)[i]? = some (.int (sq[i] : Nat)) := by simp [ht]
        have h4 := h3 sq[i] (List.getElem_mem hi)
        simp only [evq_fail, evq_int, evq_bool, evq_none, evq_var, evq_glob, evq_gtup, evq_bin, evq_un, evq_cmp, evq_ite, evq_notB, evq_andB, evq_orB, evq_truthy, evq_andV, evq_orV, evq_lst, evq_tup, evq_comp, evq_len, evq_range1, evq_range3, evq_listOf, evq_min, evq_intOf, evq_call, evq_new, evq_append, evq_extend, evq_attr, evq_sub, evq_slice, getV, List.getElem?_cons_zero, List.getElem?_cons_succ, Option.map_some, Option.bind_some, subV, hq', hqi, binq_0, binq_1, binq_2, binq_3, binq_4, binq_5, binq_6, binq_7, binq_8, binq_9, binq_10, binq_11, Int.toNat_natCast, Int.natCast_nonneg, if_true, List.set_cons_zero, List.set_cons_succ, cmpq_0, cmpq_1, cmpq_2, cmpq_3, cmpq_4, cmpq_5, cmpq_6, cmpq_7, cmpq_8, cmpq_9, h4, List.getD_eq_getElem?_getD, ht, Option.getD_some]) (by
        intro i hi _ acc
        simp only [evq_fail, evq_int, evq_bool, evq_none, evq_var, evq_glob, evq_gtup, evq_bin, evq_un, evq_cmp, evq_ite, evq_notB, evq_andB, evq_orB, evq_truthy, evq_andV, evq_orV, evq_lst, evq_tup, evq_comp, evq_len, evq_range1, evq_range3, evq_listOf, evq_min, evq_intOf, evq_call, evq_new, evq_append, evq_extend, evq_attr, evq_sub, evq_slice, getV, List.getElem?_cons_zero, List.getElem?_cons_succ, Option.map_some, List.set_cons_zero, List.set_cons_succ])
    rw [this]
    simp
  have hb' : (st ++ [O.rng 0 sq.length 1, O.lst (natL ((List.range sq.length).filter fun j => adj s (sq.getD j 0)))])[b]? = some (.lst refs) := app_get hb
  have hset : ex c (.set 4 (.bin (.BitOr) (.sub (.attr (.var 0) 9) (.var 3)) (.bin (.LShift) (.int 1) (.var 3)))) [.ref g, .ref q, .ref b, .int s, x4, x5] st = some (.next, [.ref g, .ref q, .ref b, .int s, .int (Builtin.bitOr ks (1 * 2 ^ s)), x5], st) := by
    simp only [exq_fail, exq_set, exq_setTup, exq_setTupR, exq_setItem, exq_setAttr, exq_augVar, exq_augItem, exq_expr, exq_ret, exq_ite, exq_for_, exq_whl, evq_fail, evq_int, evq_bool, evq_none, evq_var, evq_glob, evq_gtup, evq_bin, evq_un, evq_cmp, evq_ite, evq_notB, evq_andB, evq_orB, evq_truthy, evq_andV, evq_orV, evq_lst, evq_tup, evq_comp, evq_len, evq_range1, evq_range3, evq_listOf, evq_min, evq_intOf, evq_call, evq_new, evq_append, evq_extend, evq_attr, evq_sub, evq_slice, getV, List.getElem?_cons_zero, List.getElem?_cons_succ, Option.map_some, Option.bind_some, hk, subV, hkl, hkl', binq_0, binq_1, binq_2, binq_3, binq_4, binq_5, binq_6, binq_7, binq_8, binq_9, binq_10, binq_11, Int.toNat_natCast, Int.natCast_nonneg, hsn, true_and, if_true, List.set_cons_zero, List.set_cons_succ, Int.natAbs_one, if_pos (show (1:Nat) < 2 ^ 64 by decide)]
  refine ⟨_, exs_cons hset (exs_cons (ex_expr (ev_append (k := b) (xs := refs) ?_ hb hcomp (pushV_ok hb' (by omega)))) exs_nil), _, rfl⟩
  simp only [evq_fail, evq_int, evq_bool, evq_none, evq_var, evq_glob, evq_gtup, evq_bin, evq_un, evq_cmp, evq_ite, evq_notB, evq_andB, evq_orB, evq_truthy, evq_andV, evq_orV, evq_lst, evq_tup, evq_comp, evq_len, evq_range1, evq_range3, evq_listOf, evq_min, evq_intOf, evq_call, evq_new, evq_append, evq_extend, evq_attr, evq_sub, evq_slice, getV, List.getElem?_cons_zero, List.getElem?_cons_succ, Option.map_some]
end Mine

-- N5
/-! near, whole run -/
namespace Mine
open PySem

theorem run_of {fns : List Fn} {N d f : Nat} {scr : List Int} {gt : List (List Int)} {args : List V} {st st' : St} {fn : Fn} {fr : List V} {v : V} (h : fns[f]? = some fn) (hl : args.length = fn.np)
    (hb : exs ⟨N, run fns N scr gt d, scr, gt⟩ fn.body (args ++ List.replicate fn.ns .undef) st = some (.ret v, fr, st')) : run fns N scr gt (d + 1) f args st = some (v, st') := by
  unfold run
  rw [h]
  simp only [hl, if_true, hb]

theorem lt_of_get {st : St} {k : Nat} {o : O} (h : st[k]? = some o) : k < st.length := (List.getElem?_eq_some_iff.mp h).1

theorem near_run (scr : List Int) (d : Nat) {st : St} {g dd q k : Nat} {fs : List (Nat × V)} {sq : List Nat} {kl : List Int} {adj : Nat → Nat → Bool}
    (hg : st[g]? = some (.inst dd)) (hd : st[dd]? = some (.dct fs)) (hf : fs.lookup 9 = some (V.ref k)) (hkl : st[k]? = some (.lst (kl.map V.int)))
    (hq : st[q]? = some (.lst (natL sq))) (hsq : sq.length < 100)
    (hadj : ∀ s ∈ sq, s < 100 ∧ ∃ ks, kl[s]? = some ks ∧ ks.natAbs < 2 ^ 64 ∧ ∀ t ∈ sq, (Builtin.bitAnd ((Builtin.bitOr ks (1 * 2 ^ s)).fdiv (2 ^ t)) 1 == 1) = adj s t) :
    ∃ r ext, run myFns 2000 scr theTups (d + 1) 9 [.ref g, .ref q] st = some (.ref r, st ++ ext) ∧ Rows (st ++ ext) r (nearF adj sq) := by
  let row := fun i => (List.range sq.length).filter fun j => adj (sq.getD i 0) (sq.getD j 0)
  let P : Nat → List V → St → Prop := fun i fr st1 => (∃ x3 x4, fr = [.ref g, .ref q, .ref st.length, x3, x4, .undef]) ∧ (∀ k, k < st.length → st1[k]? = st[k]?) ∧
    ∃ ks : List Nat, st1[st.length]? = some (.lst (ks.map V.ref)) ∧ ks.length = i ∧ ∀ i', i' < i → ∃ kk, ks[i']? = some kk ∧ st.length < kk ∧ st1[kk]? = some (.lst (natL (row i')))
  let c : Cfg := ⟨2000, run myFns 2000 scr theTups d, scr, theTups⟩
  have hloop := for_vals (body := fun fr st => exs c [.set 4 (.bin (.BitOr) (.sub (.attr (.var 0) 9) (.var 3)) (.bin (.LShift) (.int 1) (.var 3))), .expr (.append (.var 2) (.comp 5 (.range1 (.len (.var 1))) (.cmp (.Eq) (.bin (.BitAnd) (.bin (.RShift) (.var 4) (.sub (.var 1) (.var 5))) (.int 1)) (.int 1)) (.var 5)))] fr st) (slot := 3) (j := q) (o := .lst (natL sq)) (xs := natL sq) (n := 2000) P (by simp; omega)
    (fun i fr st1 h => by
      have : st1[q]? = some (.lst (natL sq)) := by rw [h.2.1 q (lt_of_get hq)]; exact hq
      simp only [nextItem, this])
    (fun i hi fr st1 h => by
      obtain ⟨⟨x3, x4, rfl⟩, hlow, ks, hb, hks, hrows⟩ := h
      have hi' : i < sq.length := by simpa using hi
      have hs : sq[i]? = some sq[i] := List.getElem?_eq_getElem hi'
      have hq1 : st1[q]? = some (.lst (natL sq)) := by rw [hlow q (lt_of_get hq)]; exact hq
      have hk1 : attrV st1 (.ref g) 9 = some (.ref k) := by
        unfold attrV
        simp only [hlow g (lt_of_get hg), hg, hlow dd (lt_of_get hd), hd, hf]
      have hkl1 : st1[k]? = some (.lst (kl.map V.int)) := by rw [hlow k (lt_of_get hkl)]; exact hkl
      have hxs : (natL sq)[i] = .int (sq[i] : Nat) := by simp
      obtain ⟨fr', h1, y4, h2⟩ := near_step c rfl (fr := [.ref g, .ref q, .ref st.length, .int (sq[i] : Nat), x4, .undef]) rfl hk1 hkl1 hq1 hb hs hsq (by simp; omega) hadj
      refine ⟨fr', _, by rw [hxs]; exact h1, ⟨_, _, h2⟩, ?_, ks ++ [st1.length + 1], ?_, by simp [hks], ?_⟩
      · intro k' hk'
        have hlt := lt_of_get hb
        rw [List.getElem?_set_ne (by omega), List.getElem?_append_left (by omega), hlow k' hk']
      · have hlt := lt_of_get hb
        rw [List.getElem?_set_self (by simp; omega)]
        simp
      · intro i' hi2
        have hlt := lt_of_get hb
        by_cases hii : i' < i
        · obtain ⟨kk, h3, h4, h5⟩ := hrows i' hii
          refine ⟨kk, by rw [List.getElem?_append_left (by omega)]; exact h3, h4, ?_⟩
          rw [List.getElem?_set_ne (by omega)]
          exact app_get h5
        · have : i' = i := by omega
          subst this
          refine ⟨st1.length + 1, by simp [← hks], by omega, ?_⟩
          rw [List.getElem?_set_ne (by omega), List.getElem?_append_right (by omega)]
          simp [row, hs])
    [.ref g, .ref q, .ref st.length, .undef, .undef, .undef] (st ++ [.lst []]) ⟨⟨_, _, rfl⟩, fun k hk => List.getElem?_append_left hk, [], by simp, rfl, fun i' h => by omega⟩
  obtain ⟨fr', st', h1, ⟨x3, x4, rfl⟩, hlow, ks, hb, hks, hrows⟩ := hloop
  obtain ⟨ext, rfl⟩ := ext_of hlow
  refine ⟨st.length, ext, run_of (fn := ⟨2, 4, nearB⟩) rfl rfl (fr := [.ref g, .ref q, .ref st.length, x3, x4, .undef]) ?_, ?_⟩
  · have hset : ex c (.set 2 (.lst [])) [.ref g, .ref q, .undef, .undef, .undef, .undef] st = some (.next, [.ref g, .ref q, .ref st.length, .undef, .undef, .undef], st ++ [O.lst []]) := by
      simp only [exq_fail, exq_set, exq_setTup, exq_setTupR, exq_setItem, exq_setAttr, exq_augVar, exq_augItem, exq_expr, exq_ret, exq_ite, exq_for_, exq_whl, evq_fail, evq_int, evq_bool, evq_none, evq_var, evq_glob, evq_gtup, evq_bin, evq_un, evq_cmp, evq_ite, evq_notB, evq_andB, evq_orB, evq_truthy, evq_andV, evq_orV, evq_lst, evq_tup, evq_comp, evq_len, evq_range1, evq_range3, evq_listOf, evq_min, evq_intOf, evq_call, evq_new, evq_append, evq_extend, evq_attr, evq_sub, evq_slice, evlq_nil, evlq_cons, Option.map_some, List.set_cons_succ, List.set_cons_zero]
    show exs c nearB [.ref g, .ref q, .undef, .undef, .undef, .undef] st = _
    refine exs_cons hset (exs_cons (ex_for (k := q) (o := .lst (natL sq)) (st1 := st ++ [O.lst []]) ?_ (app_get hq) h1) (exs_ret (ex_ret ?_)))
    · rfl
    · rfl
  · refine ⟨ks, hb, by simp [hks, nearF], fun i r hr => ?_⟩
    have hi : i < sq.length := by
      have := (List.getElem?_eq_some_iff.mp hr).1
      simpa [nearF] using this
    obtain ⟨kk, h3, h4, h5⟩ := hrows i (by simpa using hi)
    refine ⟨kk, h3, ?_⟩
    simp only [nearF, List.getElem?_map, List.getElem?_range hi, Option.map_some, Option.some.injEq] at hr
    rw [h5, ← hr]
end Mine

-- N6
/-! folds -/
namespace Mine
open PySem

theorem contains_natL (xs : List Nat) (a : Nat) : (natL xs).contains (.int (a : Int)) = xs.contains a := by
  rw [Bool.eq_iff_iff]
  simp only [List.contains_iff_mem, List.mem_map, V.int.injEq]
  constructor
  · rintro ⟨n, h1, h2⟩
    have : n = a := by omega
    exact this ▸ h1
  · intro h
    exact ⟨a, h, rfl⟩
theorem allInts_natL (xs : List Nat) : allInts (natL xs) = true := by
  induction xs with
  | nil => rfl
  | cons x r ih => simpa [allInts] using ih
theorem intsUp_natL (n : Nat) : ∀ a : Nat, intsUp (a : Int) 1 n = natL (List.range' a n) := by
  induction n with
  | zero => intro a; rfl
  | succ n ih =>
    intro a
    have := ih (a + 1)
    simp only [intsUp, List.range'_succ, List.map_cons]
    refine congrArg (V.int a :: ·) ?_
    simpa using this

noncomputable def domF (rows : List (List Nat)) (L : List Nat) (at' other : Nat) : Bool :=
  other != at' && ((rows.getD at' []).filter fun x => L.contains x && !(rows.getD other []).contains x).isEmpty
noncomputable def goneI (rows : List (List Nat)) (L : List Nat) : Int :=
  L.foldl (fun g at' => L.foldl (fun g other => if domF rows L at' other then (at' : Int) else g) g) (-1)
noncomputable def foldsF (rows : List (List Nat)) : Nat → List Nat → Bool
  | 0, _ => true
  | k + 1, L => if L.length ≤ 1 then true else if goneI rows L < 0 then false else foldsF rows k (L.filter fun x => (x : Int) != goneI rows L)

theorem Rows.get {st : St} {r : Nat} {rows : List (List Nat)} (h : Rows st r rows) {i : Nat} (hi : i < rows.length) : ∃ kk, subV st (.ref r) (.int (i : Int)) = some (.ref kk) ∧ st[kk]? = some (.lst (natL (rows.getD i []))) := by
  obtain ⟨ks, h1, h2, h3⟩ := h
  obtain ⟨kk, h4, h5⟩ := h3 i (rows[i]) (List.getElem?_eq_getElem hi)
  refine ⟨kk, ?_, ?_⟩
  · unfold subV
    simp only [h1, Int.natCast_nonneg, if_true, Int.toNat_natCast]
    simp [h4]
  · rw [h5]; simp [hi]
/-- what lies below b is as it was -/
noncomputable def Low (b : Nat) (st st1 : St) : Prop := b ≤ st1.length ∧ ∀ k, k < b → st1[k]? = st[k]?
theorem Low.get {b k : Nat} {st st1 : St} {o : O} (h : Low b st st1) (hb : b ≤ st.length) (hk : st[k]? = some o) (hkb : k < b) : st1[k]? = some o := by rw [h.2 k hkb]; exact hk
theorem Low.ext {b : Nat} {st st1 : St} (h : Low b st st1) (ext : St) : Low b st (st1 ++ ext) :=
  ⟨by have := h.1; simp; omega, fun k hk => by rw [List.getElem?_append_left (by have := h.1; omega)]; exact h.2 k hk⟩
theorem Low.rows {st st1 : St} {r : Nat} {rows : List (List Nat)} (h : Low st.length st st1) (hr : Rows st r rows) : Rows st1 r rows := by
  obtain ⟨ext, rfl⟩ := ext_of h.2
  exact hr.append ext
theorem Low.at {st st1 : St} {k : Nat} {o : O} (h : Low st.length st st1) (hk : st[k]? = some o) : st1[k]? = some o := h.get (Nat.le_refl _) hk (lt_of_get hk)
theorem Low.refl (st : St) : Low st.length st st := ⟨Nat.le_refl _, fun _ _ => rfl⟩
theorem Low.trans {st st1 st2 : St} (h : Low st.length st st1) (h2 : Low st1.length st1 st2) : Low st.length st st2 :=
  ⟨by have := h.1; have := h2.1; omega, fun k hk => by rw [h2.2 k (by have := h.1; omega)]; exact h.2 k hk⟩

theorem dom_ev (c : Cfg) (hN : c.N = 2000) {st : St} {r j : Nat} {rows : List (List Nat)} {L : List Nat} {x2 x5 : V} {at' other : Nat}
    (hr : Rows st r rows) (hj : st[j]? = some (.lst (natL L))) (ha : at' < rows.length) (ho : other < rows.length) (hlen : ∀ x ∈ rows, x.length < 100) :
    ∃ ext, ev c (.andB (.cmp (.NotEq) (.var 4) (.var 3)) (.cmp (.Eq) (.comp 5 (.sub (.var 0) (.var 3)) (.andB (.cmp (.In) (.var 5) (.var 1)) (.cmp (.NotIn) (.var 5) (.sub (.var 0) (.var 4)))) (.var 5)) (.lst []))) [.ref r, .ref j, x2, .int (at' : Nat), .int (other : Nat), x5] st
      = some (.bool (domF rows L at' other), st ++ ext) := by
  have hne : ((other : Int) != (at' : Int)) = (other != at') := by
    rw [Bool.eq_iff_iff]; simp; omega
  by_cases h : other = at'
  · subst h
    exact ⟨[], by simp only [evq_fail, evq_int, evq_bool, evq_none, evq_var, evq_glob, evq_gtup, evq_bin, evq_un, evq_cmp, evq_ite, evq_notB, evq_andB, evq_orB, evq_truthy, evq_andV, evq_orV, evq_lst, evq_tup, evq_comp, evq_len, evq_range1, evq_range3, evq_listOf, evq_min, evq_intOf, evq_call, evq_new, evq_append, evq_extend, evq_attr, evq_sub, evq_slice, getV, List.getElem?_cons_zero, List.getElem?_cons_succ, Option.map_some, Option.bind_some, cmpq_0, cmpq_1, cmpq_2, cmpq_3, cmpq_4, cmpq_5, cmpq_6, cmpq_7, cmpq_8, cmpq_9, hne, bne_self_eq_false, domF, Bool.false_and, List.append_nil]⟩
  · obtain ⟨ka, hka, hka2⟩ := hr.get ha
    obtain ⟨ko, hko, hko2⟩ := hr.get ho
    have hL : (rows.getD at' []).length < 100 := by
      have : rows.getD at' [] = rows[at'] := by simp [ha]
      rw [this]; exact hlen _ (List.getElem_mem ha)
    have hcomp := ev_comp_list c (slot := 5) (iter := .sub (.var 0) (.var 3)) (cond := .andB (.cmp (.In) (.var 5) (.var 1)) (.cmp (.NotIn) (.var 5) (.sub (.var 0) (.var 4)))) (elt := .var 5) (fr := [.ref r, .ref j, x2, .int (at' : Nat), .int (other : Nat), x5]) (st := st) (st1 := st) (j := ka) (xs := rows.getD at' []) (p := fun x => L.contains x && !(rows.getD other []).contains x) (f := fun n => V.int (n : Int)) (by omega) (by unfold lim; omega)
      (by simp only [evq_fail, evq_int, evq_bool, evq_none, evq_var, evq_glob, evq_gtup, evq_bin, evq_un, evq_cmp, evq_ite, evq_notB, evq_andB, evq_orB, evq_truthy, evq_andV, evq_orV, evq_lst, evq_tup, evq_comp, evq_len, evq_range1, evq_range3, evq_listOf, evq_min, evq_intOf, evq_call, evq_new, evq_append, evq_extend, evq_attr, evq_sub, evq_slice, getV, List.getElem?_cons_zero, List.getElem?_cons_succ, Option.map_some, Option.bind_some, hka]) hka2 (by
        intro x hx acc
        have h1 : (st ++ [O.lst acc])[j]? = some (.lst (natL L)) := app_get hj
        have h2 : subV (st ++ [O.lst acc]) (.ref r) (.int (other : Int)) = some (.ref ko) := by
          obtain ⟨ks, g1, g2, g3⟩ := hr
          unfold subV at hko ⊢
          simp only [g1] at hko
          simp only [app_get g1, hko]
        have h3 : (st ++ [O.lst acc])[ko]? = some (.lst (natL (rows.getD other []))) := app_get hko2
        simp only [evq_fail, evq_int, evq_bool, evq_none, evq_var, evq_glob, evq_gtup, evq_bin, evq_un, evq_cmp, evq_ite, evq_notB, evq_andB, evq_orB, evq_truthy, evq_andV, evq_orV, evq_lst, evq_tup, evq_comp, evq_len, evq_range1, evq_range3, evq_listOf, evq_min, evq_intOf, evq_call, evq_new, evq_append, evq_extend, evq_attr, evq_sub, evq_slice, getV, List.getElem?_cons_zero, List.getElem?_cons_succ, Option.map_some, Option.bind_some, List.set_cons_zero, List.set_cons_succ, cmpq_0, cmpq_1, cmpq_2, cmpq_3, cmpq_4, cmpq_5, cmpq_6, cmpq_7, cmpq_8, cmpq_9, h1, allInts_natL, contains_natL, if_true]
        cases L.contains x with
        | false => simp
        | true => simp only [h2, h3, cmpq_0, cmpq_1, cmpq_2, cmpq_3, cmpq_4, cmpq_5, cmpq_6, cmpq_7, cmpq_8, cmpq_9, Option.map_some, Option.bind_some, allInts_natL, contains_natL, if_true, Bool.true_and]) (by
        intro x hx _ acc
        simp only [evq_fail, evq_int, evq_bool, evq_none, evq_var, evq_glob, evq_gtup, evq_bin, evq_un, evq_cmp, evq_ite, evq_notB, evq_andB, evq_orB, evq_truthy, evq_andV, evq_orV, evq_lst, evq_tup, evq_comp, evq_len, evq_range1, evq_range3, evq_listOf, evq_min, evq_intOf, evq_call, evq_new, evq_append, evq_extend, evq_attr, evq_sub, evq_slice, getV, List.getElem?_cons_zero, List.getElem?_cons_succ, Option.map_some, List.set_cons_zero, List.set_cons_succ])
    refine ⟨[O.lst (natL ((rows.getD at' []).filter fun x => L.contains x && !(rows.getD other []).contains x)), O.lst []], ?_⟩
    have hb : (other != at') = true := by simpa using h
    have hc2 : ev c (.cmp (.Eq) (.comp 5 (.sub (.var 0) (.var 3)) (.andB (.cmp (.In) (.var 5) (.var 1)) (.cmp (.NotIn) (.var 5) (.sub (.var 0) (.var 4)))) (.var 5)) (.lst [])) [.ref r, .ref j, x2, .int (at' : Nat), .int (other : Nat), x5] st = some (.bool (domF rows L at' other), st ++ [O.lst (natL ((rows.getD at' []).filter fun x => L.contains x && !(rows.getD other []).contains x)), O.lst []]) := by
      generalize ME.comp 5 (.sub (.var 0) (.var 3)) (.andB (.cmp (.In) (.var 5) (.var 1)) (.cmp (.NotIn) (.var 5) (.sub (.var 0) (.var 4)))) (.var 5) = e at hcomp
      simp only [evq_fail, evq_int, evq_bool, evq_none, evq_var, evq_glob, evq_gtup, evq_bin, evq_un, evq_cmp, evq_ite, evq_notB, evq_andB, evq_orB, evq_truthy, evq_andV, evq_orV, evq_lst, evq_tup, evq_comp, evq_len, evq_range1, evq_range3, evq_listOf, evq_min, evq_intOf, evq_call, evq_new, evq_append, evq_extend, evq_attr, evq_sub, evq_slice, hcomp, Option.bind_some, evlq_nil, evlq_cons, Option.map_some]
      have e1 : ∀ X : O, ((st ++ [X]) ++ [O.lst []])[st.length]? = some X := by intro X; simp
      have e2 : ∀ X : O, ((st ++ [X]) ++ [O.lst []])[(st ++ [X]).length]? = some (.lst []) := by intro X; simp
      simp only [cmpq_0, cmpq_1, cmpq_2, cmpq_3, cmpq_4, cmpq_5, cmpq_6, cmpq_7, cmpq_8, cmpq_9, e1, e2, allInts_natL, if_true, Option.map_some, domF, hb, Bool.true_and]
      simp
    generalize ME.cmp (.Eq) (.comp 5 (.sub (.var 0) (.var 3)) (.andB (.cmp (.In) (.var 5) (.var 1)) (.cmp (.NotIn) (.var 5) (.sub (.var 0) (.var 4)))) (.var 5)) (.lst []) = e at hc2 ⊢
    simp only [evq_fail, evq_int, evq_bool, evq_none, evq_var, evq_glob, evq_gtup, evq_bin, evq_un, evq_cmp, evq_ite, evq_notB, evq_andB, evq_orB, evq_truthy, evq_andV, evq_orV, evq_lst, evq_tup, evq_comp, evq_len, evq_range1, evq_range3, evq_listOf, evq_min, evq_intOf, evq_call, evq_new, evq_append, evq_extend, evq_attr, evq_sub, evq_slice, getV, List.getElem?_cons_zero, List.getElem?_cons_succ, Option.map_some, Option.bind_some, hc2]
    simp only [cmpq_0, cmpq_1, cmpq_2, cmpq_3, cmpq_4, cmpq_5, cmpq_6, cmpq_7, cmpq_8, cmpq_9, hne, hb, Option.map_some, Option.bind_some]
    exact hc2
end Mine

-- N7
/-! folds, whole run -/
namespace Mine
open PySem

noncomputable def ifDom : MS := .ite (.andB (.cmp (.NotEq) (.var 4) (.var 3)) (.cmp (.Eq) (.comp 5 (.sub (.var 0) (.var 3)) (.andB (.cmp (.In) (.var 5) (.var 1)) (.cmp (.NotIn) (.var 5) (.sub (.var 0) (.var 4)))) (.var 5)) (.lst []))) [.set 2 (.var 3)] []

theorem foldl_take_succ {α β : Type} (f : β → α → β) (b : β) (xs : List α) (i : Nat) (h : i < xs.length) : (xs.take (i + 1)).foldl f b = f ((xs.take i).foldl f b) xs[i] := by
  rw [List.take_succ_eq_append_getElem h, List.foldl_append]; rfl

/-- the inner loop -/
theorem folds_inner (c : Cfg) (hN : c.N = 2000) {st : St} {r j : Nat} {rows : List (List Nat)} {L : List Nat} {x4 x5 : V} {at' : Nat} {g : Int}
    (hr : Rows st r rows) (hj : st[j]? = some (.lst (natL L))) (ha : at' < rows.length) (hL : ∀ x ∈ L, x < rows.length) (hLl : L.length < 100) (hlen : ∀ x ∈ rows, x.length < 100) :
    ∃ y4 ext, ex c (.for_ 4 (.var 1) [ifDom]) [.ref r, .ref j, .int g, .int (at' : Nat), x4, x5] st
      = some (.next, [.ref r, .ref j, .int (L.foldl (fun g other => if domF rows L at' other then (at' : Int) else g) g), .int (at' : Nat), y4, x5], st ++ ext) := by
  let P : Nat → List V → St → Prop := fun i fr st1 => (∃ y4, fr = [.ref r, .ref j, .int ((L.take i).foldl (fun g other => if domF rows L at' other then (at' : Int) else g) g), .int (at' : Nat), y4, x5]) ∧ Low st.length st st1
  obtain ⟨fr', st', h1, ⟨y4, rfl⟩, hlow⟩ := for_vals (body := fun fr st => exs c [ifDom] fr st) (slot := 4) (j := j) (o := .lst (natL L)) (xs := natL L) (n := c.N) P (by simp; omega)
    (fun i fr st1 h => by simp only [nextItem, h.2.at hj])
    (fun i hi fr st1 h => by
      obtain ⟨⟨y4, rfl⟩, hlow⟩ := h
      have hi' : i < L.length := by simpa using hi
      have hxs : (natL L)[i] = .int (L[i] : Nat) := by simp
      rw [hxs]
      obtain ⟨ext, he⟩ := dom_ev c hN (x2 := .int ((L.take i).foldl (fun g other => if domF rows L at' other then (at' : Int) else g) g)) (x5 := x5) (L := L) (hlow.rows hr) (hlow.at hj) ha (hL _ (List.getElem_mem hi')) hlen
      refine ⟨[.ref r, .ref j, .int ((L.take (i + 1)).foldl (fun g other => if domF rows L at' other then (at' : Int) else g) g), .int (at' : Nat), .int (L[i] : Nat), x5], st1 ++ ext, exs_cons (ex_ite he ?_) exs_nil, ⟨_, rfl⟩, hlow.ext ext⟩
      · rw [foldl_take_succ _ _ _ _ hi']
        cases domF rows L at' L[i] with
        | true => 
          simp only [if_true, exsq_nil, exsq_cons, exq_fail, exq_set, exq_setTup, exq_setTupR, exq_setItem, exq_setAttr, exq_augVar, exq_augItem, exq_expr, exq_ret, exq_ite, exq_for_, exq_whl, evq_fail, evq_int, evq_bool, evq_none, evq_var, evq_glob, evq_gtup, evq_bin, evq_un, evq_cmp, evq_ite, evq_notB, evq_andB, evq_orB, evq_truthy, evq_andV, evq_orV, evq_lst, evq_tup, evq_comp, evq_len, evq_range1, evq_range3, evq_listOf, evq_min, evq_intOf, evq_call, evq_new, evq_append, evq_extend, evq_attr, evq_sub, evq_slice, getV, List.set_cons_zero, List.set_cons_succ, List.getElem?_cons_zero, List.getElem?_cons_succ, Option.map_some, Option.bind_some]
        | false => simp only [Bool.false_eq_true, if_false, exsq_nil, exsq_cons, List.set_cons_zero, List.set_cons_succ])
    [.ref r, .ref j, .int g, .int (at' : Nat), x4, x5] st ⟨⟨_, rfl⟩, Low.refl st⟩
  obtain ⟨ext, rfl⟩ := ext_of hlow.2
  refine ⟨y4, ext, ex_for (k := j) (o := .lst (natL L)) (st1 := st) rfl hj ?_⟩
  rw [h1]
  simp

theorem folds_outer (c : Cfg) (hN : c.N = 2000) {st : St} {r j : Nat} {rows : List (List Nat)} {L : List Nat} {x3 x4 x5 : V}
    (hr : Rows st r rows) (hj : st[j]? = some (.lst (natL L))) (hL : ∀ x ∈ L, x < rows.length) (hLl : L.length < 100) (hlen : ∀ x ∈ rows, x.length < 100) :
    ∃ y3 y4 ext, ex c (.for_ 3 (.var 1) [.for_ 4 (.var 1) [ifDom]]) [.ref r, .ref j, .int (-1), x3, x4, x5] st
      = some (.next, [.ref r, .ref j, .int (goneI rows L), y3, y4, x5], st ++ ext) := by
  let F := fun (g : Int) (at' : Nat) => L.foldl (fun g other => if domF rows L at' other then (at' : Int) else g) g
  let P : Nat → List V → St → Prop := fun i fr st1 => (∃ y3 y4, fr = [.ref r, .ref j, .int ((L.take i).foldl F (-1)), y3, y4, x5]) ∧ Low st.length st st1
  obtain ⟨fr', st', h1, ⟨y3, y4, rfl⟩, hlow⟩ := for_vals (body := fun fr st => exs c [.for_ 4 (.var 1) [ifDom]] fr st) (slot := 3) (j := j) (o := .lst (natL L)) (xs := natL L) (n := c.N) P (by simp; omega)
    (fun i fr st1 h => by simp only [nextItem, h.2.at hj])
    (fun i hi fr st1 h => by
      obtain ⟨⟨y3, y4, rfl⟩, hlow⟩ := h
      have hi' : i < L.length := by simpa using hi
      have hxs : (natL L)[i] = .int (L[i] : Nat) := by simp
      rw [hxs]
      obtain ⟨y4', ext, he⟩ := folds_inner c hN (g := (L.take i).foldl F (-1)) (x4 := y4) (x5 := x5) (hlow.rows hr) (hlow.at hj) (hL _ (List.getElem_mem hi')) hL hLl hlen
      refine ⟨_, _, exs_cons he exs_nil, ⟨.int (L[i] : Nat), y4', ?_⟩, hlow.ext ext⟩
      rw [foldl_take_succ _ _ _ _ hi'])
    [.ref r, .ref j, .int (-1), x3, x4, x5] st ⟨⟨_, _, rfl⟩, Low.refl st⟩
  obtain ⟨ext, rfl⟩ := ext_of hlow.2
  refine ⟨y3, y4, ext, ex_for (k := j) (o := .lst (natL L)) (st1 := st) rfl hj ?_⟩
  rw [h1]
  simp [goneI, F]

theorem foldsF_small {rows : List (List Nat)} {L : List Nat} (h : L.length ≤ 1) : ∀ k, foldsF rows k L = true := by
  intro k
  cases k with
  | zero => rfl
  | succ k => simp [foldsF, h]

theorem goneI_spec (rows : List (List Nat)) (L : List Nat) : goneI rows L = -1 ∨ ∃ a ∈ L, goneI rows L = (a : Int) := by
  have key : ∀ (M : List Nat) (g : Int), (∀ x ∈ M, x ∈ L) → (g = -1 ∨ ∃ a ∈ L, g = (a : Int)) → 
      (M.foldl (fun g at' => L.foldl (fun g other => if domF rows L at' other then (at' : Int) else g) g) g = -1 ∨ ∃ a ∈ L, M.foldl (fun g at' => L.foldl (fun g other => if domF rows L at' other then (at' : Int) else g) g) g = (a : Int)) := by
    intro M
    induction M with
    | nil => intro g _ h; exact h
    | cons a M ih =>
      intro g hM h
      refine ih _ (fun x hx => hM x (List.mem_cons_of_mem _ hx)) ?_
      have inner : ∀ (K : List Nat) (g : Int), (g = -1 ∨ ∃ a ∈ L, g = (a : Int)) → (K.foldl (fun g other => if domF rows L a other then (a : Int) else g) g = -1 ∨ ∃ b ∈ L, K.foldl (fun g other => if domF rows L a other then (a : Int) else g) g = (b : Int)) := by
        intro K
        induction K with
        | nil => intro g h; exact h
        | cons k K ih2 =>
          intro g h
          refine ih2 _ ?_
          by_cases hd : domF rows L a k = true <;> simp only [hd, if_true, Bool.false_eq_true, if_false]
          · exact .inr ⟨a, hM a (List.mem_cons_self ..), rfl⟩
          · exact h
      exact inner L g h
  exact key L (-1) (fun _ h => h) (.inl rfl)

theorem folds_run (scr : List Int) (d : Nat) {st : St} {r : Nat} {rows : List (List Nat)} (hr : Rows st r rows) (hn : rows.length < 100) (hlen : ∀ x ∈ rows, x.length < 100) :
    ∃ ext, run myFns 2000 scr theTups (d + 1) 11 [.ref r] st = some (.bool (foldsF rows rows.length (List.range rows.length)), st ++ ext) := by
  let c : Cfg := ⟨2000, run myFns 2000 scr theTups d, scr, theTups⟩
  let n := rows.length
  obtain ⟨ks, hks1, hks2, _⟩ := id hr
  have hlenr : lenV st (.ref r) = some rows.length := by unfold lenV; simp only [hks1, List.length_map, hks2]
  have hsm : smallI (rows.length : Int) = true := by simp [smallI]; omega
  have hrl : rngLen 0 (rows.length : Int) 1 = rows.length := rngLen_up _
  have hset : ex c (.set 1 (.listOf (.range1 (.len (.var 0))))) [.ref r, .undef, .undef, .undef, .undef, .undef] st = some (.next, [.ref r, .ref (st.length + 1), .undef, .undef, .undef, .undef], st ++ [O.rng 0 n 1, O.lst (natL (List.range n))]) := by
    have := intsUp_natL rows.length 0
    rw [← List.range_eq_range'] at this
    simp only [exq_fail, exq_set, exq_setTup, exq_setTupR, exq_setItem, exq_setAttr, exq_augVar, exq_augItem, exq_expr, exq_ret, exq_ite, exq_for_, exq_whl, evq_fail, evq_int, evq_bool, evq_none, evq_var, evq_glob, evq_gtup, evq_bin, evq_un, evq_cmp, evq_ite, evq_notB, evq_andB, evq_orB, evq_truthy, evq_andV, evq_orV, evq_lst, evq_tup, evq_comp, evq_len, evq_range1, evq_range3, evq_listOf, evq_min, evq_intOf, evq_call, evq_new, evq_append, evq_extend, evq_attr, evq_sub, evq_slice, getV, List.getElem?_cons_zero, List.getElem?_cons_succ, Option.map_some, Option.bind_some, hlenr, hsm, if_true, List.getElem?_concat_length, hrl, List.set_cons_zero, List.set_cons_succ, n, List.length_append, List.length_cons, List.length_nil, List.append_assoc, List.cons_append, List.nil_append]
    simpa using this
  let I : Nat → List V → St → Prop := fun m fr st1 => ∃ j L x2 x3 x4 x5, fr = [.ref r, .ref j, x2, x3, x4, x5] ∧ Low st.length st st1 ∧ st1[j]? = some (.lst (natL L)) ∧ L.length ≤ m ∧ L.length < 100 ∧ (∀ x ∈ L, x < n) ∧ foldsF rows m L = foldsF rows n (List.range n)
  let Q : Fl × List V × St → Prop := fun p => Low st.length st p.2.2 ∧ ((p.1 = .next ∧ foldsF rows n (List.range n) = true) ∨ (p.1 = .ret (.bool false) ∧ foldsF rows n (List.range n) = false))
  obtain ⟨⟨f, fr', st'⟩, h1, hQ⟩ := whl_ok (cond := fun fr st => ev c (.cmp (.Gt) (.len (.var 1)) (.int 1)) fr st) (body := fun fr st => exs c [.set 2 (.un (.USub) (.int 1)), .for_ 3 (.var 1) [.for_ 4 (.var 1) [ifDom]], .ite (.cmp (.Lt) (.var 2) (.int 0)) [.ret (.bool false)] [], .set 1 (.comp 5 (.var 1) (.cmp (.NotEq) (.var 5) (.var 2)) (.var 5))] fr st) I Q (by
    rintro m fr st1 ⟨j, L, x2, x3, x4, x5, rfl, hlow, hj, hLm, hL100, hLn, hF⟩
    have hc : ev c (.cmp (.Gt) (.len (.var 1)) (.int 1)) [.ref r, .ref j, x2, x3, x4, x5] st1 = some (.bool (decide (L.length > 1)), st1) := by
      simp only [evq_fail, evq_int, evq_bool, evq_none, evq_var, evq_glob, evq_gtup, evq_bin, evq_un, evq_cmp, evq_ite, evq_notB, evq_andB, evq_orB, evq_truthy, evq_andV, evq_orV, evq_lst, evq_tup, evq_comp, evq_len, evq_range1, evq_range3, evq_listOf, evq_min, evq_intOf, evq_call, evq_new, evq_append, evq_extend, evq_attr, evq_sub, evq_slice, getV, List.getElem?_cons_zero, List.getElem?_cons_succ, Option.map_some, Option.bind_some, lenV, hj, List.length_map, cmpq_0, cmpq_1, cmpq_2, cmpq_3, cmpq_4, cmpq_5, cmpq_6, cmpq_7, cmpq_8, cmpq_9]
      congr 3
      rw [decide_eq_decide]; omega
    refine ⟨_, _, hc, ?_, ?_⟩
    · intro h
      have h : L.length ≤ 1 := by simpa using h
      exact ⟨hlow, .inl ⟨rfl, by rw [← hF]; exact foldsF_small h m⟩⟩
    · intro h
      have h : 1 < L.length := by simpa using h
      obtain ⟨m', rfl⟩ : ∃ m', m = m' + 1 := ⟨m - 1, by omega⟩
      simp only [foldsF, if_neg (show ¬ L.length ≤ 1 by omega)] at hF
      obtain ⟨y3, y4, ext, ho⟩ := folds_outer c rfl (x3 := x3) (x4 := x4) (x5 := x5) (hlow.rows hr) hj hLn hL100 hlen
      have hs2 : ex c (.set 2 (.un (.USub) (.int 1))) [.ref r, .ref j, x2, x3, x4, x5] st1 = some (.next, [.ref r, .ref j, .int (-1), x3, x4, x5], st1) := by
        simp only [exq_fail, exq_set, exq_setTup, exq_setTupR, exq_setItem, exq_setAttr, exq_augVar, exq_augItem, exq_expr, exq_ret, exq_ite, exq_for_, exq_whl, evq_fail, evq_int, evq_bool, evq_none, evq_var, evq_glob, evq_gtup, evq_bin, evq_un, evq_cmp, evq_ite, evq_notB, evq_andB, evq_orB, evq_truthy, evq_andV, evq_orV, evq_lst, evq_tup, evq_comp, evq_len, evq_range1, evq_range3, evq_listOf, evq_min, evq_intOf, evq_call, evq_new, evq_append, evq_extend, evq_attr, evq_sub, evq_slice, Option.map_some, Option.bind_some, unV, List.set_cons_zero, List.set_cons_succ]
      by_cases hg : goneI rows L < 0
      · rw [if_pos hg] at hF
        refine ⟨.ret (.bool false), [.ref r, .ref j, .int (goneI rows L), y3, y4, x5], st1 ++ ext, exs_cons hs2 (exs_cons ho (exs_ret (ex_ite (x := true) (st1 := st1 ++ ext) (fr := [.ref r, .ref j, .int (goneI rows L), y3, y4, x5]) ?_ ?_))), .inr ⟨_, rfl, hlow.ext ext, .inr ⟨rfl, hF.symm⟩⟩⟩
        · simp only [evq_fail, evq_int, evq_bool, evq_none, evq_var, evq_glob, evq_gtup, evq_bin, evq_un, evq_cmp, evq_ite, evq_notB, evq_andB, evq_orB, evq_truthy, evq_andV, evq_orV, evq_lst, evq_tup, evq_comp, evq_len, evq_range1, evq_range3, evq_listOf, evq_min, evq_intOf, evq_call, evq_new, evq_append, evq_extend, evq_attr, evq_sub, evq_slice, getV, List.getElem?_cons_zero, List.getElem?_cons_succ, Option.map_some, Option.bind_some, cmpq_0, cmpq_1, cmpq_2, cmpq_3, cmpq_4, cmpq_5, cmpq_6, cmpq_7, cmpq_8, cmpq_9, decide_eq_true hg]
        · simp only [if_true, exsq_nil, exsq_cons, exq_fail, exq_set, exq_setTup, exq_setTupR, exq_setItem, exq_setAttr, exq_augVar, exq_augItem, exq_expr, exq_ret, exq_ite, exq_for_, exq_whl, evq_fail, evq_int, evq_bool, evq_none, evq_var, evq_glob, evq_gtup, evq_bin, evq_un, evq_cmp, evq_ite, evq_notB, evq_andB, evq_orB, evq_truthy, evq_andV, evq_orV, evq_lst, evq_tup, evq_comp, evq_len, evq_range1, evq_range3, evq_listOf, evq_min, evq_intOf, evq_call, evq_new, evq_append, evq_extend, evq_attr, evq_sub, evq_slice, Option.map_some, Option.bind_some]
      · rw [if_neg hg] at hF
        have hcomp := ev_comp_list c (slot := 5) (iter := .var 1) (cond := .cmp (.NotEq) (.var 5) (.var 2)) (elt := .var 5) (fr := [.ref r, .ref j, .int (goneI rows L), y3, y4, x5]) (st := st1 ++ ext) (st1 := st1 ++ ext) (j := j) (xs := L) (p := fun x => (x : Int) != goneI rows L) (f := fun n => V.int (n : Int)) (by show _ < 2000; omega) (by unfold lim; omega) rfl (app_get hj)
          (fun x _ acc => by simp only [evq_fail, evq_int, evq_bool, evq_none, evq_var, evq_glob, evq_gtup, evq_bin, evq_un, evq_cmp, evq_ite, evq_notB, evq_andB, evq_orB, evq_truthy, evq_andV, evq_orV, evq_lst, evq_tup, evq_comp, evq_len, evq_range1, evq_range3, evq_listOf, evq_min, evq_intOf, evq_call, evq_new, evq_append, evq_extend, evq_attr, evq_sub, evq_slice, getV, List.getElem?_cons_zero, List.getElem?_cons_succ, Option.map_some, Option.bind_some, List.set_cons_zero, List.set_cons_succ, cmpq_0, cmpq_1, cmpq_2, cmpq_3, cmpq_4, cmpq_5, cmpq_6, cmpq_7, cmpq_8, cmpq_9])
          (fun x _ _ acc => by simp only [evq_fail, evq_int, evq_bool, evq_none, evq_var, evq_glob, evq_gtup, evq_bin, evq_un, evq_cmp, evq_ite, evq_notB, evq_andB, evq_orB, evq_truthy, evq_andV, evq_orV, evq_lst, evq_tup, evq_comp, evq_len, evq_range1, evq_range3, evq_listOf, evq_min, evq_intOf, evq_call, evq_new, evq_append, evq_extend, evq_attr, evq_sub, evq_slice, getV, List.getElem?_cons_zero, List.getElem?_cons_succ, Option.map_some, Option.bind_some, List.set_cons_zero, List.set_cons_succ])
        refine ⟨.next, [.ref r, .ref (st1 ++ ext).length, .int (goneI rows L), y3, y4, x5], _, exs_cons hs2 (exs_cons ho (exs_cons (ex_ite (x := false) (st1 := st1 ++ ext) (fr := [.ref r, .ref j, .int (goneI rows L), y3, y4, x5]) ?_ ?_) (exs_cons (ex_set hcomp) exs_nil))), .inl ⟨rfl, m', by omega, (st1 ++ ext).length, L.filter fun x : Nat => (x : Int) != goneI rows L, _, _, _, _, rfl, (hlow.ext ext).ext _, ?_, ?_, ?_, ?_, hF⟩⟩
        · simp only [evq_fail, evq_int, evq_bool, evq_none, evq_var, evq_glob, evq_gtup, evq_bin, evq_un, evq_cmp, evq_ite, evq_notB, evq_andB, evq_orB, evq_truthy, evq_andV, evq_orV, evq_lst, evq_tup, evq_comp, evq_len, evq_range1, evq_range3, evq_listOf, evq_min, evq_intOf, evq_call, evq_new, evq_append, evq_extend, evq_attr, evq_sub, evq_slice, getV, List.getElem?_cons_zero, List.getElem?_cons_succ, Option.map_some, Option.bind_some, cmpq_0, cmpq_1, cmpq_2, cmpq_3, cmpq_4, cmpq_5, cmpq_6, cmpq_7, cmpq_8, cmpq_9, decide_eq_false hg]
        · simp only [Bool.false_eq_true, if_false, exsq_nil, exsq_cons]
        · simp
        · have : (L.filter fun x : Nat => (x : Int) != goneI rows L).length < L.length := by
            rcases goneI_spec rows L with h2 | ⟨a, h2, h3⟩
            · omega
            · exact List.length_filter_lt_length_iff_exists.mpr ⟨a, h2, by rw [h3]; simp⟩
          omega
        · exact Nat.lt_of_le_of_lt (List.length_filter_le ..) hL100
        · intro x hx
          exact hLn x (List.mem_filter.mp hx).1)
    c.N n [.ref r, .ref (st.length + 1), .undef, .undef, .undef, .undef] (st ++ [O.rng 0 n 1, O.lst (natL (List.range n))])
    ⟨_, List.range n, _, _, _, _, rfl, (Low.refl st).ext _, by simp, by simp, by simpa using hn, fun x hx => List.mem_range.mp hx, rfl⟩ (by show n < 2000; omega)
  obtain ⟨hlow, hres⟩ := hQ
  obtain ⟨ext, hext⟩ := ext_of hlow.2
  simp only at hext
  subst hext
  refine ⟨ext, run_of (fn := ⟨1, 5, foldsB⟩) rfl rfl (fr := fr') ?_⟩
  show exs c foldsB [.ref r, .undef, .undef, .undef, .undef, .undef] st = _
  have hw : ex c (.whl (.cmp (.Gt) (.len (.var 1)) (.int 1)) [.set 2 (.un (.USub) (.int 1)), .for_ 3 (.var 1) [.for_ 4 (.var 1) [ifDom]], .ite (.cmp (.Lt) (.var 2) (.int 0)) [.ret (.bool false)] [], .set 1 (.comp 5 (.var 1) (.cmp (.NotEq) (.var 5) (.var 2)) (.var 5))]) [.ref r, .ref (st.length + 1), .undef, .undef, .undef, .undef] (st ++ [O.rng 0 n 1, O.lst (natL (List.range n))]) = some (f, fr', st ++ ext) := by
    rw [← h1]; simp only [exq_fail, exq_set, exq_setTup, exq_setTupR, exq_setItem, exq_setAttr, exq_augVar, exq_augItem, exq_expr, exq_ret, exq_ite, exq_for_, exq_whl]
  rcases hres with ⟨h2, h3⟩ | ⟨h2, h3⟩
  · simp only at h2
    subst h2
    refine exs_cons hset (exs_cons hw (exs_ret (ex_ret ?_)))
    rw [h3]; simp only [evq_fail, evq_int, evq_bool, evq_none, evq_var, evq_glob, evq_gtup, evq_bin, evq_un, evq_cmp, evq_ite, evq_notB, evq_andB, evq_orB, evq_truthy, evq_andV, evq_orV, evq_lst, evq_tup, evq_comp, evq_len, evq_range1, evq_range3, evq_listOf, evq_min, evq_intOf, evq_call, evq_new, evq_append, evq_extend, evq_attr, evq_sub, evq_slice]
  · simp only at h2
    subst h2
    refine exs_cons hset (exs_ret ?_)
    rw [h3]; exact hw
end Mine

-- N8
/-! whole -/
namespace Mine
open PySem

noncomputable def wholeL (rows : List (List Nat)) : Nat → Nat → List Nat → List Nat
  | 0, _, L => L
  | k + 1, i, L => if i < L.length then wholeL rows k (i + 1) (L ++ (rows.getD (L.getD i 0) []).filter fun x => !L.contains x) else L

theorem nodup_sub_len {L : List Nat} : ∀ {M : List Nat}, L.Nodup → (∀ x ∈ L, x ∈ M) → L.length ≤ M.length := by
  induction L with
  | nil => intro M _ _; simp
  | cons a L ih =>
    intro M hn hs
    have ha : a ∈ M := hs a (List.mem_cons_self ..)
    obtain ⟨h1, h2⟩ := List.nodup_cons.mp hn
    have := ih (M := M.erase a) h2 (fun x hx => (List.mem_erase_of_ne (by rintro rfl; exact h1 hx)).mpr (hs x (List.mem_cons_of_mem _ hx)))
    rw [List.length_erase_of_mem ha] at this
    have := List.length_pos_of_mem ha
    simp; omega
theorem nodup_len {L : List Nat} {n : Nat} (h : L.Nodup) (hl : ∀ x ∈ L, x < n) : L.length ≤ n := by
  have := nodup_sub_len (M := List.range n) h (fun x hx => List.mem_range.mpr (hl x hx))
  simpa using this

theorem whole_step (c : Cfg) (hN : c.N = 2000) {st : St} {r j : Nat} {rows : List (List Nat)} {L : List Nat} {x3 : V} {a : Nat}
    (hr : Rows st r rows) (hj : st[j]? = some (.lst (natL L))) (ha : a < rows.length) (hlen : ∀ x ∈ rows, x.length < 100) (hL : L.length < 100) :
    exs c [.expr (.extend (.var 1) (.comp 3 (.sub (.var 0) (.var 2)) (.cmp (.NotIn) (.var 3) (.var 1)) (.var 3)))] [.ref r, .ref j, .int (a : Nat), x3] st
      = some (.next, [.ref r, .ref j, .int (a : Nat), x3], (st ++ [O.lst (natL ((rows.getD a []).filter fun x => !L.contains x))]).set j (O.lst (natL (L ++ (rows.getD a []).filter fun x => !L.contains x)))) := by
  obtain ⟨ka, hka, hka2⟩ := hr.get ha
  have hLa : (rows.getD a []).length < 100 := by
    have : rows.getD a [] = rows[a] := by simp [ha]
    rw [this]; exact hlen _ (List.getElem_mem ha)
  have hcomp := ev_comp_list c (slot := 3) (iter := .sub (.var 0) (.var 2)) (cond := .cmp (.NotIn) (.var 3) (.var 1)) (elt := .var 3) (fr := [.ref r, .ref j, .int (a : Nat), x3]) (st := st) (st1 := st) (j := ka) (xs := rows.getD a []) (p := fun x => !L.contains x) (f := fun n => V.int (n : Int)) (by omega) (by unfold lim; omega)
      (by simp only [evq_fail, evq_int, evq_bool, evq_none, evq_var, evq_glob, evq_gtup, evq_bin, evq_un, evq_cmp, evq_ite, evq_notB, evq_andB, evq_orB, evq_truthy, evq_andV, evq_orV, evq_lst, evq_tup, evq_comp, evq_len, evq_range1, evq_range3, evq_listOf, evq_min, evq_intOf, evq_call, evq_new, evq_append, evq_extend, evq_attr, evq_sub, evq_slice, getV, List.getElem?_cons_zero, List.getElem?_cons_succ, Option.map_some, Option.bind_some, hka]) hka2 (by
        intro x hx acc
        have h1 : (st ++ [O.lst acc])[j]? = some (.lst (natL L)) := app_get hj
        simp only [evq_fail, evq_int, evq_bool, evq_none, evq_var, evq_glob, evq_gtup, evq_bin, evq_un, evq_cmp, evq_ite, evq_notB, evq_andB, evq_orB, evq_truthy, evq_andV, evq_orV, evq_lst, evq_tup, evq_comp, evq_len, evq_range1, evq_range3, evq_listOf, evq_min, evq_intOf, evq_call, evq_new, evq_append, evq_extend, evq_attr, evq_sub, evq_slice, getV, List.getElem?_cons_zero, List.getElem?_cons_succ, Option.map_some, Option.bind_some, List.set_cons_zero, List.set_cons_succ, cmpq_0, cmpq_1, cmpq_2, cmpq_3, cmpq_4, cmpq_5, cmpq_6, cmpq_7, cmpq_8, cmpq_9, h1, allInts_natL, contains_natL, if_true]) (by
        intro x hx _ acc
        simp only [evq_fail, evq_int, evq_bool, evq_none, evq_var, evq_glob, evq_gtup, evq_bin, evq_un, evq_cmp, evq_ite, evq_notB, evq_andB, evq_orB, evq_truthy, evq_andV, evq_orV, evq_lst, evq_tup, evq_comp, evq_len, evq_range1, evq_range3, evq_listOf, evq_min, evq_intOf, evq_call, evq_new, evq_append, evq_extend, evq_attr, evq_sub, evq_slice, getV, List.getElem?_cons_zero, List.getElem?_cons_succ, Option.map_some, List.set_cons_zero, List.set_cons_succ])
  have hlt := lt_of_get hj
  have h1 : ∀ X : O, (st ++ [X])[j]? = some (.lst (natL L)) := fun X => app_get hj
  have h2 : ∀ X : O, (st ++ [X])[st.length]? = some X := fun X => by simp
  have h3 : ((natL L).length + (List.map (fun n : Nat => V.int (n : Int)) ((rows.getD a []).filter fun x => !L.contains x)).length < lim) := by
    have := List.length_filter_le (fun x => !L.contains x) (rows.getD a [])
    simp only [List.length_map]
    unfold lim; omega
  refine exs_cons (ex_expr (v := .none) ?_) exs_nil
  generalize ME.comp 3 (.sub (.var 0) (.var 2)) (.cmp (.NotIn) (.var 3) (.var 1)) (.var 3) = e at hcomp
  simp only [evq_fail, evq_int, evq_bool, evq_none, evq_var, evq_glob, evq_gtup, evq_bin, evq_un, evq_cmp, evq_ite, evq_notB, evq_andB, evq_orB, evq_truthy, evq_andV, evq_orV, evq_lst, evq_tup, evq_comp, evq_len, evq_range1, evq_range3, evq_listOf, evq_min, evq_intOf, evq_call, evq_new, evq_append, evq_extend, evq_attr, evq_sub, evq_slice, getV, List.getElem?_cons_zero, List.getElem?_cons_succ, Option.map_some, Option.bind_some, lenV, hj, Option.isSome_some, if_true, hcomp, h1, h2, List.map_append]
  rw [if_pos ⟨by omega, h3⟩]

theorem whole_loop (c : Cfg) (hN : c.N = 2000) {st : St} {r : Nat} {rows : List (List Nat)} {xs0 : List V}
    (hr : Rows st r rows) (hn : rows.length < 100) (hlen : ∀ x ∈ rows, x.length < 100) (hlt : ∀ x ∈ rows, ∀ y ∈ x, y < rows.length) (hnd : ∀ x ∈ rows, x.Nodup) :
    ∀ k i L m x2 x3 st1, L.Nodup → (∀ x ∈ L, x < rows.length) → i ≤ L.length → rows.length + 1 - i ≤ k → k < m → Low st.length st st1 → st1[st.length]? = some (.lst (natL L)) →
      ∃ fr' st', forI (fun fr st => exs c [.expr (.extend (.var 1) (.comp 3 (.sub (.var 0) (.var 2)) (.cmp (.NotIn) (.var 3) (.var 1)) (.var 3)))] fr st) 2 st.length (.lst xs0) m i [.ref r, .ref st.length, x2, x3] st1 = some (.next, fr', st')
        ∧ (∃ y2 y3, fr' = [.ref r, .ref st.length, y2, y3]) ∧ Low st.length st st' ∧ st'[st.length]? = some (.lst (natL (wholeL rows k i L))) := by
  intro k
  induction k with
  | zero =>
    intro i L m x2 x3 st1 h1 h2 h3 h4 h5 _ _
    have := nodup_len h1 h2
    omega
  | succ k ih =>
    intro i L m x2 x3 st1 h1 h2 h3 h4 h5 h6 h7
    have hLn := nodup_len h1 h2
    obtain ⟨m, rfl⟩ : ∃ m', m = m' + 1 := ⟨m - 1, by omega⟩
    unfold forI
    have hnx : nextItem st1 st.length (.lst xs0) i = some (natL L)[i]? := by unfold nextItem; simp only [h7]
    rw [hnx]
    by_cases hi : i < L.length
    · have hx : (natL L)[i]? = some (.int (L[i] : Nat)) := by simp [hi]
      have ha : L[i] < rows.length := h2 _ (List.getElem_mem hi)
      have hst := whole_step c hN (x3 := x3) (L := L) (a := L[i]) (h6.rows hr) h7 ha hlen (by omega)
      simp only [hx, List.set_cons_zero, List.set_cons_succ, hst]
      have hd : L.getD i 0 = L[i] := by simp [hi]
      have hrow : rows.getD L[i] [] = rows[L[i]] := by simp [ha]
      have hw : wholeL rows (k + 1) i L = wholeL rows k (i + 1) (L ++ (rows.getD L[i] []).filter fun x => !L.contains x) := by
        simp only [wholeL, hi, if_true, hd]
      rw [hw]
      have hlow := lt_of_get h7
      refine ih (i + 1) _ m _ x3 _ ?_ ?_ ?_ (by omega) (by omega) ⟨by simp; omega, fun k' hk' => ?_⟩ ?_
      · rw [List.nodup_append]
        refine ⟨h1, (hrow ▸ hnd _ (List.getElem_mem ha)).filter _, ?_⟩
        intro x hx y hy hxy
        subst hxy
        have := (List.mem_filter.mp hy).2
        simp [hx] at this
      · intro x hx
        rcases List.mem_append.mp hx with h | h
        · exact h2 x h
        · have := (List.mem_filter.mp h).1
          rw [hrow] at this
          exact hlt _ (List.getElem_mem ha) x this
      · simp; omega
      · rw [List.getElem?_set_ne (by omega), List.getElem?_append_left (by omega)]
        exact h6.2 k' hk'
      · rw [List.getElem?_set_self (by simp; omega)]
    · have hx : (natL L)[i]? = none := by simp; omega
      have hw : wholeL rows (k + 1) i L = L := by simp only [wholeL, hi, if_false]
      rw [hw]
      simp only [hx]
      exact ⟨_, _, rfl, ⟨_, _, rfl⟩, h6, h7⟩

noncomputable def wholeF (rows : List (List Nat)) : Bool := (wholeL rows (rows.length + 1) 0 [0]).length == rows.length

theorem whole_run (scr : List Int) (d : Nat) {st : St} {r : Nat} {rows : List (List Nat)} (hr : Rows st r rows) (hn : rows.length < 100) (hpos : 0 < rows.length) (hlen : ∀ x ∈ rows, x.length < 100)
    (hlt : ∀ x ∈ rows, ∀ y ∈ x, y < rows.length) (hnd : ∀ x ∈ rows, x.Nodup) :
    ∃ ext, run myFns 2000 scr theTups (d + 1) 12 [.ref r] st = some (.bool (wholeF rows), st ++ ext) := by
  let c : Cfg := ⟨2000, run myFns 2000 scr theTups d, scr, theTups⟩
  have hset : ex c (.set 1 (.lst [.int 0])) [.ref r, .undef, .undef, .undef] st = some (.next, [.ref r, .ref st.length, .undef, .undef], st ++ [O.lst (natL [0])]) := by
    simp only [exq_fail, exq_set, exq_setTup, exq_setTupR, exq_setItem, exq_setAttr, exq_augVar, exq_augItem, exq_expr, exq_ret, exq_ite, exq_for_, exq_whl, evq_fail, evq_int, evq_bool, evq_none, evq_var, evq_glob, evq_gtup, evq_bin, evq_un, evq_cmp, evq_ite, evq_notB, evq_andB, evq_orB, evq_truthy, evq_andV, evq_orV, evq_lst, evq_tup, evq_comp, evq_len, evq_range1, evq_range3, evq_listOf, evq_min, evq_intOf, evq_call, evq_new, evq_append, evq_extend, evq_attr, evq_sub, evq_slice, evlq_nil, evlq_cons, Option.map_some, Option.bind_some, List.set_cons_zero, List.set_cons_succ]
    rfl
  obtain ⟨fr', st', h1, ⟨y2, y3, rfl⟩, hlow, hres⟩ := whole_loop c rfl (xs0 := natL [0]) hr hn hlen hlt hnd (rows.length + 1) 0 [0] 2000 .undef .undef (st ++ [O.lst (natL [0])]) (by simp) (by simpa using hpos) (by omega) (by omega) (by omega) ((Low.refl st).ext _) (by simp)
  obtain ⟨ext, hext⟩ := ext_of hlow.2
  subst hext
  refine ⟨ext, run_of (fn := ⟨1, 3, wholeB⟩) rfl rfl (fr := [.ref r, .ref st.length, y2, y3]) ?_⟩
  show exs c wholeB [.ref r, .undef, .undef, .undef] st = _
  refine exs_cons hset (exs_cons (ex_for (k := st.length) (o := .lst (natL [0])) (st1 := st ++ [O.lst (natL [0])]) rfl (by simp) h1) (exs_ret (ex_ret ?_)))
  obtain ⟨ks, hks1, hks2, _⟩ := hr.append ext
  simp only [evq_fail, evq_int, evq_bool, evq_none, evq_var, evq_glob, evq_gtup, evq_bin, evq_un, evq_cmp, evq_ite, evq_notB, evq_andB, evq_orB, evq_truthy, evq_andV, evq_orV, evq_lst, evq_tup, evq_comp, evq_len, evq_range1, evq_range3, evq_listOf, evq_min, evq_intOf, evq_call, evq_new, evq_append, evq_extend, evq_attr, evq_sub, evq_slice, getV, List.getElem?_cons_zero, List.getElem?_cons_succ, Option.map_some, Option.bind_some, lenV, hres, hks1, List.length_map, hks2, cmpq_0, cmpq_1, cmpq_2, cmpq_3, cmpq_4, cmpq_5, cmpq_6, cmpq_7, cmpq_8, cmpq_9, wholeF]
  congr 3
  rw [Bool.eq_iff_iff]; simp; omega
end Mine

-- N9
/-! solve: its store -/
namespace Mine
open PySem

noncomputable def upd {α : Type} (f : Nat → α) (p : Nat) (x : α) : Nat → α := fun q => if q = p then x else f q
theorem upd_self {α : Type} (f : Nat → α) (p : Nat) (x : α) : upd f p x p = x := by simp [upd]
theorem upd_ne {α : Type} (f : Nat → α) {p q : Nat} (x : α) (h : q ≠ p) : upd f p x q = f q := by simp [upd, h]

theorem set_range {α β : Type} (g : α → β) (f : Nat → α) (N p : Nat) (x : α) : ((List.range N).map fun i => g (f i)).set p (g x) = (List.range N).map fun i => g (upd f p x i) := by
  apply List.ext_getElem?
  intro i
  rw [List.getElem?_set]
  simp only [List.getElem?_map, List.length_map, List.length_range]
  by_cases hp : p = i
  · subst hp
    by_cases h : p < N
    · simp [h, upd_self]
    · simp [h]
  · rw [if_neg hp]
    by_cases h : i < N
    · simp [h, upd_ne f x (Ne.symm hp)]
    · simp [h]

structure SS (st : St) (N : Nat) (vals : Nat → Int) (lf : List Int) (bef : Nat → List Nat) (queue : List Nat) (st1 : St) : Prop where
  low : Low st.length st st1
  v : st1[st.length + 1]? = some (.lst ((List.range N).map fun p => V.int (vals p)))
  l : st1[st.length + 2]? = some (.lst (lf.map V.int))
  b : st1[st.length + 3]? = some (.lst ((List.range N).map fun i => V.ref (st.length + 4 + i)))
  r : ∀ i, i < N → st1[st.length + 4 + i]? = some (.lst (natL (bef i)))
  q : st1[st.length + 4 + N]? = some (.lst (natL queue))

theorem Low.set {st st1 : St} (h : Low st.length st st1) {k : Nat} (hk : st.length ≤ k) (o : O) : Low st.length st (st1.set k o) :=
  ⟨by have := h.1; simp; omega, fun i hi => by rw [List.getElem?_set_ne (by omega)]; exact h.2 i hi⟩

section
variable {st st1 : St} {N : Nat} {vals : Nat → Int} {lf : List Int} {bef : Nat → List Nat} {queue : List Nat}
theorem SS.ext (h : SS st N vals lf bef queue st1) (e : St) : SS st N vals lf bef queue (st1 ++ e) :=
  ⟨h.low.ext e, app_get h.v, app_get h.l, app_get h.b, fun i hi => app_get (h.r i hi), app_get h.q⟩
theorem SS.setv (h : SS st N vals lf bef queue st1) (p : Nat) (x : Int) : SS st N (upd vals p x) lf bef queue (st1.set (st.length + 1) (.lst (((List.range N).map fun p => V.int (vals p)).set p (.int x)))) := by
  have hl := lt_of_get h.v
  refine ⟨h.low.set (by omega) _, ?_, ?_, ?_, fun i hi => ?_, ?_⟩
  · rw [List.getElem?_set_self hl, set_range V.int vals N p x]
  · rw [List.getElem?_set_ne (by omega)]; exact h.l
  · rw [List.getElem?_set_ne (by omega)]; exact h.b
  · rw [List.getElem?_set_ne (by omega)]; exact h.r i hi
  · rw [List.getElem?_set_ne (by omega)]; exact h.q
theorem SS.setl (h : SS st N vals lf bef queue st1) (lf' : List Int) : SS st N vals lf' bef queue (st1.set (st.length + 2) (.lst (lf'.map V.int))) := by
  have hl := lt_of_get h.l
  refine ⟨h.low.set (by omega) _, ?_, ?_, ?_, fun i hi => ?_, ?_⟩
  · rw [List.getElem?_set_ne (by omega)]; exact h.v
  · rw [List.getElem?_set_self hl]
  · rw [List.getElem?_set_ne (by omega)]; exact h.b
  · rw [List.getElem?_set_ne (by omega)]; exact h.r i hi
  · rw [List.getElem?_set_ne (by omega)]; exact h.q
theorem SS.setr (h : SS st N vals lf bef queue st1) {m : Nat} (hm : m < N) (x : List Nat) : SS st N vals lf (upd bef m x) queue (st1.set (st.length + 4 + m) (.lst (natL x))) := by
  have hl := lt_of_get (h.r m hm)
  refine ⟨h.low.set (by omega) _, ?_, ?_, ?_, fun i hi => ?_, ?_⟩
  · rw [List.getElem?_set_ne (by omega)]; exact h.v
  · rw [List.getElem?_set_ne (by omega)]; exact h.l
  · rw [List.getElem?_set_ne (by omega)]; exact h.b
  · by_cases hi' : i = m
    · subst hi'; rw [List.getElem?_set_self hl, upd_self]
    · rw [List.getElem?_set_ne (by omega), upd_ne _ _ hi']; exact h.r i hi
  · rw [List.getElem?_set_ne (by omega)]; exact h.q
theorem SS.setq (h : SS st N vals lf bef queue st1) (x : List Nat) : SS st N vals lf bef x (st1.set (st.length + 4 + N) (.lst (natL x))) := by
  have hl := lt_of_get h.q
  refine ⟨h.low.set (by omega) _, ?_, ?_, ?_, fun i hi => ?_, ?_⟩
  · rw [List.getElem?_set_ne (by omega)]; exact h.v
  · rw [List.getElem?_set_ne (by omega)]; exact h.l
  · rw [List.getElem?_set_ne (by omega)]; exact h.b
  · rw [List.getElem?_set_ne (by omega)]; exact h.r i hi
  · rw [List.getElem?_set_self hl]
end

theorem comp_alloc {step : V → St → Option (Option V × St)} {j k : Nat} {xs : List V} {st : St} (hstep : ∀ v st, step v st = some (some (.ref st.length), st ++ [.lst []])) (hj : st[j]? = some (.lst xs)) (hjk : j < k) (hkst : k = st.length) (hl : xs.length < 10000) :
    ∀ n i st1, i ≤ xs.length → xs.length - i < n → (∀ i, i < k → st1[i]? = st[i]?) → st1.length = k + 1 + i → st1[k]? = some (.lst ((List.range i).map fun i => V.ref (k + 1 + i))) → (∀ i', i' < i → st1[k + 1 + i']? = some (.lst [])) →
      ∃ st', compI step j (.lst xs) k n i st1 = some st' ∧ (∀ i, i < k → st'[i]? = st[i]?) ∧ st'.length = k + 1 + xs.length ∧ st'[k]? = some (.lst ((List.range xs.length).map fun i => V.ref (k + 1 + i))) ∧ (∀ i', i' < xs.length → st'[k + 1 + i']? = some (.lst [])) := by
  intro n
  induction n with
  | zero => intro i st1 h1 h2; omega
  | succ n ih =>
    intro i st1 h1 h2 h3 h4 h5 h6
    unfold compI
    have hnx : nextItem st1 j (.lst xs) i = some xs[i]? := by unfold nextItem; simp only [h3 j hjk, hj]
    rw [hnx]
    by_cases hi : i < xs.length
    · have hx : xs[i]? = some xs[i] := List.getElem?_eq_getElem hi
      have hp : pushV (st1 ++ [O.lst []]) k (.ref st1.length) = some ((st1 ++ [O.lst []]).set k (.lst ((List.range (i + 1)).map fun i => V.ref (k + 1 + i)))) := by
        rw [pushV_ok (app_get h5) (by simp; omega), List.range_succ, List.map_append, h4]
        rfl
      simp only [hx, hstep, hp]
      refine ih (i + 1) _ hi (by omega) (fun i' hi' => ?_) (by simp; omega) ?_ (fun i' hi' => ?_)
      · rw [List.getElem?_set_ne (by omega), List.getElem?_append_left (by omega)]; exact h3 i' hi'
      · rw [List.getElem?_set_self (by simp; omega)]
      · rw [List.getElem?_set_ne (by omega)]
        by_cases h : i' < i
        · exact app_get (h6 i' h)
        · rw [List.getElem?_append_right (by omega)]
          have : k + 1 + i' - st1.length = 0 := by omega
          rw [this]; rfl
    · have : i = xs.length := by omega
      subst this
      have hx : xs[xs.length]? = none := List.getElem?_eq_none (by omega)
      simp only [hx]
      exact ⟨st1, rfl, h3, h4, h5, h6⟩

/-- the first four statements of solve -/
theorem solve_head (c : Cfg) (hN : c.N = 2000) {st : St} {sr ra lr N : Nat} {xs : List V} (ha : st[ra]? = some (.lst xs)) (hxs : xs.length = N) (hNl : N < 1000) :
    ∃ st1, exs c [.set 3 (.bin (.Mult) (.lst [.glob (-1)]) (.len (.var 1))), .set 4 (.lst []), .set 6 (.comp 10 (.var 1) (.bool true) (.lst [])), .set 7 (.lst [])] [.ref sr, .ref ra, .ref lr, .undef, .undef, .undef, .undef, .undef, .undef, .undef, .undef] st
      = some (.next, [.ref sr, .ref ra, .ref lr, .ref (st.length + 1), .ref (st.length + 2), .undef, .ref (st.length + 3), .ref (st.length + 4 + N), .undef, .undef, .undef], st1)
      ∧ SS st N (fun _ => -1) [] (fun _ => []) [] st1 := by
  have hral := lt_of_get ha
  let s3 := st ++ [O.lst [.int (-1)], O.lst (List.replicate N (V.int (-1))), O.lst []]
  have hs3 : s3.length = st.length + 3 := by simp [s3]
  obtain ⟨s4, h1, h2, h3, h4, h5⟩ := comp_alloc (step := fun v st => (ev c (.bool true) (([V.ref sr, .ref ra, .ref lr, .ref (st.length + 1), .ref (st.length + 2), .undef, .undef, .undef, .undef, .undef, .undef] : List V).set 10 v) st).bind fun q => match q.1 with
        | .bool true => (ev c (.lst []) (([V.ref sr, .ref ra, .ref lr, .ref (st.length + 1), .ref (st.length + 2), .undef, .undef, .undef, .undef, .undef, .undef] : List V).set 10 v) q.2).map fun r => (some r.1, r.2)
        | .bool false => some (none, q.2)
        | _ => none) (j := ra) (k := st.length + 3) (xs := xs) (st := s3) (fun v st => by simp only [evq_fail, evq_int, evq_bool, evq_none, evq_var, evq_glob, evq_gtup, evq_bin, evq_un, evq_cmp, evq_ite, evq_notB, evq_andB, evq_orB, evq_truthy, evq_andV, evq_orV, evq_lst, evq_tup, evq_comp, evq_len, evq_range1, evq_range3, evq_listOf, evq_min, evq_intOf, evq_call, evq_new, evq_append, evq_extend, evq_attr, evq_sub, evq_slice, evlq_nil, evlq_cons, Option.bind_some, Option.map_some]) (app_get ha) (by omega) hs3.symm (by omega) 2000 0 (s3 ++ [O.lst []]) (by omega) (by omega) (fun i hi => List.getElem?_append_left (by omega)) (by simp [hs3]) (by rw [List.getElem?_append_right (by omega)]; simp [hs3]) (fun i' h => by omega)
  have e3 : ex c (.set 3 (.bin (.Mult) (.lst [.glob (-1)]) (.len (.var 1)))) [.ref sr, .ref ra, .ref lr, .undef, .undef, .undef, .undef, .undef, .undef, .undef, .undef] st = some (.next, [.ref sr, .ref ra, .ref lr, .ref (st.length + 1), .undef, .undef, .undef, .undef, .undef, .undef, .undef], st ++ [O.lst [.int (-1)], O.lst (List.replicate N (V.int (-1)))]) := by
    have g1 : (st ++ [O.lst [V.int (-1)]])[ra]? = some (.lst xs) := app_get ha
    simp only [exq_fail, exq_set, exq_setTup, exq_setTupR, exq_setItem, exq_setAttr, exq_augVar, exq_augItem, exq_expr, exq_ret, exq_ite, exq_for_, exq_whl, evq_fail, evq_int, evq_bool, evq_none, evq_var, evq_glob, evq_gtup, evq_bin, evq_un, evq_cmp, evq_ite, evq_notB, evq_andB, evq_orB, evq_truthy, evq_andV, evq_orV, evq_lst, evq_tup, evq_comp, evq_len, evq_range1, evq_range3, evq_listOf, evq_min, evq_intOf, evq_call, evq_new, evq_append, evq_extend, evq_attr, evq_sub, evq_slice, evlq_nil, evlq_cons, getV, List.getElem?_cons_zero, List.getElem?_cons_succ, Option.map_some, Option.bind_some, lenV, g1, hxs, binq_0, binq_1, binq_2, binq_3, binq_4, binq_5, binq_6, binq_7, binq_8, binq_9, binq_10, binq_11, List.getElem?_concat_length, Int.toNat_natCast, List.set_cons_zero, List.set_cons_succ, if_pos (show (0:Int) ≤ (N:Int) ∧ (N:Int) < 100000 by omega), List.length_append, List.length_cons, List.length_nil, List.append_assoc, List.cons_append, List.nil_append]
  have e4 : ex c (.set 4 (.lst [])) [.ref sr, .ref ra, .ref lr, .ref (st.length + 1), .undef, .undef, .undef, .undef, .undef, .undef, .undef] (st ++ [O.lst [.int (-1)], O.lst (List.replicate N (V.int (-1)))]) = some (.next, [.ref sr, .ref ra, .ref lr, .ref (st.length + 1), .ref (st.length + 2), .undef, .undef, .undef, .undef, .undef, .undef], s3) := by
    simp only [exq_fail, exq_set, exq_setTup, exq_setTupR, exq_setItem, exq_setAttr, exq_augVar, exq_augItem, exq_expr, exq_ret, exq_ite, exq_for_, exq_whl, evq_fail, evq_int, evq_bool, evq_none, evq_var, evq_glob, evq_gtup, evq_bin, evq_un, evq_cmp, evq_ite, evq_notB, evq_andB, evq_orB, evq_truthy, evq_andV, evq_orV, evq_lst, evq_tup, evq_comp, evq_len, evq_range1, evq_range3, evq_listOf, evq_min, evq_intOf, evq_call, evq_new, evq_append, evq_extend, evq_attr, evq_sub, evq_slice, evlq_nil, evlq_cons, Option.map_some, List.length_append, List.length_cons, List.length_nil, List.append_assoc, List.cons_append, List.nil_append, s3, List.set_cons_zero, List.set_cons_succ]
  have e6 : ex c (.set 6 (.comp 10 (.var 1) (.bool true) (.lst []))) [.ref sr, .ref ra, .ref lr, .ref (st.length + 1), .ref (st.length + 2), .undef, .undef, .undef, .undef, .undef, .undef] s3 = some (.next, [.ref sr, .ref ra, .ref lr, .ref (st.length + 1), .ref (st.length + 2), .undef, .ref (st.length + 3), .undef, .undef, .undef, .undef], s4) := by
    refine ex_set ?_
    have g1 : s3[ra]? = some (.lst xs) := app_get ha
    have h1' : compI (fun v st => (ev c (.bool true) (([V.ref sr, .ref ra, .ref lr, .ref (st.length + 1), .ref (st.length + 2), .undef, .undef, .undef, .undef, .undef, .undef] : List V).set 10 v) st).bind fun q => match q.1 with
        | .bool true => (ev c (.lst []) (([V.ref sr, .ref ra, .ref lr, .ref (st.length + 1), .ref (st.length + 2), .undef, .undef, .undef, .undef, .undef, .undef] : List V).set 10 v) q.2).map fun r => (some r.1, r.2)
        | .bool false => some (none, q.2)
        | _ => none) ra (.lst xs) s3.length c.N 0 (s3 ++ [O.lst []]) = some s4 := by rw [hN, hs3]; exact h1
    rw [ev]
    have g2 : ev c (.var 1) [.ref sr, .ref ra, .ref lr, .ref (st.length + 1), .ref (st.length + 2), .undef, .undef, .undef, .undef, .undef, .undef] s3 = some (.ref ra, s3) := by
      simp only [evq_fail, evq_int, evq_bool, evq_none, evq_var, evq_glob, evq_gtup, evq_bin, evq_un, evq_cmp, evq_ite, evq_notB, evq_andB, evq_orB, evq_truthy, evq_andV, evq_orV, evq_lst, evq_tup, evq_comp, evq_len, evq_range1, evq_range3, evq_listOf, evq_min, evq_intOf, evq_call, evq_new, evq_append, evq_extend, evq_attr, evq_sub, evq_slice, getV, List.getElem?_cons_zero, List.getElem?_cons_succ, Option.map_some]
    rw [g2]
    simp only [Option.bind_some, srcOf, g1, Option.map_some]
    refine (congrArg (Option.map fun st' => (V.ref s3.length, st')) h1').trans ?_
    rw [hs3]; rfl
  have e7 : ex c (.set 7 (.lst [])) [.ref sr, .ref ra, .ref lr, .ref (st.length + 1), .ref (st.length + 2), .undef, .ref (st.length + 3), .undef, .undef, .undef, .undef] s4 = some (.next, [.ref sr, .ref ra, .ref lr, .ref (st.length + 1), .ref (st.length + 2), .undef, .ref (st.length + 3), .ref (st.length + 4 + N), .undef, .undef, .undef], s4 ++ [O.lst []]) := by
    have g3 : s4.length = st.length + 4 + N := by omega
    simp only [exq_fail, exq_set, exq_setTup, exq_setTupR, exq_setItem, exq_setAttr, exq_augVar, exq_augItem, exq_expr, exq_ret, exq_ite, exq_for_, exq_whl, evq_fail, evq_int, evq_bool, evq_none, evq_var, evq_glob, evq_gtup, evq_bin, evq_un, evq_cmp, evq_ite, evq_notB, evq_andB, evq_orB, evq_truthy, evq_andV, evq_orV, evq_lst, evq_tup, evq_comp, evq_len, evq_range1, evq_range3, evq_listOf, evq_min, evq_intOf, evq_call, evq_new, evq_append, evq_extend, evq_attr, evq_sub, evq_slice, evlq_nil, evlq_cons, Option.map_some, List.set_cons_zero, List.set_cons_succ, g3]
  refine ⟨s4 ++ [O.lst []], exs_cons e3 (exs_cons e4 (exs_cons e6 (exs_cons e7 exs_nil))), ⟨⟨by simp; omega, fun i hi => ?_⟩, ?_, ?_, ?_, fun i hi => ?_, ?_⟩⟩
  · rw [List.getElem?_append_left (by omega), h2 i (by omega)]
    exact List.getElem?_append_left hi
  · apply app_get
    rw [h2 _ (by omega), List.getElem?_append_right (by omega)]
    have : st.length + 1 - st.length = 1 := by omega
    rw [this]
    simp only [List.getElem?_cons_succ, List.getElem?_cons_zero]
    congr 2
    apply List.ext_getElem?
    intro i
    simp only [List.getElem?_replicate, List.getElem?_map]
    by_cases h : i < N <;> simp [h]
  · apply app_get
    rw [h2 _ (by omega), List.getElem?_append_right (by omega)]
    have : st.length + 2 - st.length = 2 := by omega
    rw [this]; rfl
  · apply app_get
    rw [h4, hxs]
  · apply app_get
    have := h5 i (by omega)
    rw [show st.length + 3 + 1 + i = st.length + 4 + i by omega] at this
    rw [this]; rfl
  · rw [List.getElem?_append_right (by omega)]
    have : st.length + 4 + N - s4.length = 0 := by omega
    rw [this]; rfl
end Mine

-- N10
/-! solve: the lists that it builds -/
namespace Mine
open PySem

noncomputable def addB (n : Nat) (b : Nat → List Nat) (m : Nat) : Nat → List Nat := upd b m (b m ++ [n])
noncomputable def befO (A : Nat → List Nat) (i : Nat) : Nat → List Nat := (List.range i).foldl (fun b n => (A n).foldl (addB n) b) (fun _ => [])
noncomputable def vals0 (lo : Nat → Bool) (i : Nat) : Nat → Int := fun p => if p < i ∧ lo p = true then 0 else -1

theorem addB_len (n : Nat) (xs : List Nat) : ∀ (b : Nat → List Nat) (m : Nat), (xs.foldl (addB n) b m).length ≤ (b m).length + xs.length := by
  induction xs with
  | nil => intro b m; simp
  | cons x r ih =>
    intro b m
    have := ih (addB n b x) m
    have h2 : (addB n b x m).length ≤ (b m).length + 1 := by
      by_cases h : m = x
      · subst h; simp [addB, upd_self]
      · simp [addB, upd_ne b _ h]
    simp only [List.foldl_cons, List.length_cons]; omega
theorem befO_succ (A : Nat → List Nat) (i : Nat) : befO A (i + 1) = (A i).foldl (addB i) (befO A i) := by
  simp [befO, List.range_succ, List.foldl_append]
theorem befO_len (A : Nat → List Nat) : ∀ (i : Nat), (∀ n, n < i → (A n).length ≤ 20) → ∀ m, (befO A i m).length ≤ 20 * i := by
  intro i
  induction i with
  | zero => intro _ m; simp [befO]
  | succ i ih =>
    intro h m
    rw [befO_succ]
    have := addB_len i (A i) (befO A i) m
    have := ih (fun n hn => h n (by omega)) m
    have := h i (by omega)
    omega

noncomputable abbrev frS (b N sr ra lr : Nat) (x5 x8 x9 : V) : List V := [.ref sr, .ref ra, .ref lr, .ref (b + 1), .ref (b + 2), x5, .ref (b + 3), .ref (b + 4 + N), x8, x9, .undef]

theorem SS.subb {st st1 : St} {N : Nat} {vals : Nat → Int} {lf : List Int} {bef : Nat → List Nat} {queue : List Nat} (h : SS st N vals lf bef queue st1) {m : Nat} (hm : m < N) : subV st1 (.ref (st.length + 3)) (.int (m : Int)) = some (.ref (st.length + 4 + m)) := by
  unfold subV
  simp only [h.b, Int.natCast_nonneg, if_true, Int.toNat_natCast]
  simp [hm]
theorem natL_app (xs : List Nat) (n : Nat) : natL xs ++ [V.int (n : Int)] = natL (xs ++ [n]) := by simp

theorem solve_pred (c : Cfg) (hN : c.N = 2000) {st st1 : St} {sr ra lr N n : Nat} {A : Nat → List Nat} {vals : Nat → Int} {lf : List Int} {bef : Nat → List Nat} {queue : List Nat} {x8 x9 : V}
    (hra : Rows st ra ((List.range N).map A)) (hA : ∀ q ∈ A n, q < N) (hAl : (A n).length ≤ 20) (hn : n < N) (hb : ∀ m, (bef m).length ≤ 5000) (h : SS st N vals lf bef queue st1) :
    ∃ y8 st2, ex c (.for_ 8 (.sub (.var 1) (.var 5)) [.ite (.cmp (.NotEq) (.var 8) (.glob (-1))) [.expr (.append (.sub (.var 6) (.var 8)) (.var 5))] []]) (frS st.length N sr ra lr (.int (n : Nat)) x8 x9) st1
      = some (.next, frS st.length N sr ra lr (.int (n : Nat)) y8 x9, st2) ∧ SS st N vals lf ((A n).foldl (addB n) bef) queue st2 := by
  obtain ⟨kk, hk1, hk2⟩ := hra.get (i := n) (by simpa using hn)
  have hkA : ((List.range N).map A).getD n [] = A n := by simp [hn]
  rw [hkA] at hk2
  have hsub : ∀ s : St, Low st.length st s → subV s (.ref ra) (.int (n : Int)) = some (.ref kk) := by
    intro s hs
    obtain ⟨ks, g1, g2, g3⟩ := hra
    unfold subV at hk1 ⊢
    simp only [g1] at hk1
    simp only [hs.at g1, hk1]
  let P : Nat → List V → St → Prop := fun i fr s => (∃ y8, fr = frS st.length N sr ra lr (.int (n : Nat)) y8 x9) ∧ SS st N vals lf (((A n).take i).foldl (addB n) bef) queue s
  obtain ⟨fr', st', h1, ⟨y8, rfl⟩, h2⟩ := for_vals (body := fun fr st => exs c [.ite (.cmp (.NotEq) (.var 8) (.glob (-1))) [.expr (.append (.sub (.var 6) (.var 8)) (.var 5))] []] fr st) (slot := 8) (j := kk) (o := .lst (natL (A n))) (xs := natL (A n)) (n := c.N) P (by simp; omega)
    (fun i fr s h => by simp only [nextItem, h.2.low.at hk2])
    (fun i hi fr s h => by
      obtain ⟨⟨y8, rfl⟩, hs⟩ := h
      have hi' : i < (A n).length := by simpa using hi
      have hxs : (natL (A n))[i] = .int ((A n)[i] : Nat) := by simp
      have hm : (A n)[i] < N := hA _ (List.getElem_mem hi')
      rw [hxs]
      have hc : ev c (.cmp (.NotEq) (.var 8) (.glob (-1))) (frS st.length N sr ra lr (.int (n : Nat)) (.int ((A n)[i] : Nat)) x9) s = some (.bool true, s) := by
        have : (((A n)[i] : Nat) : Int) ≠ -1 := by omega
        simp only [evq_fail, evq_int, evq_bool, evq_none, evq_var, evq_glob, evq_gtup, evq_bin, evq_un, evq_cmp, evq_ite, evq_notB, evq_andB, evq_orB, evq_truthy, evq_andV, evq_orV, evq_lst, evq_tup, evq_comp, evq_len, evq_range1, evq_range3, evq_listOf, evq_min, evq_intOf, evq_call, evq_new, evq_append, evq_extend, evq_attr, evq_sub, evq_slice, getV, List.getElem?_cons_zero, List.getElem?_cons_succ, Option.map_some, Option.bind_some, cmpq_0, cmpq_1, cmpq_2, cmpq_3, cmpq_4, cmpq_5, cmpq_6, cmpq_7, cmpq_8, cmpq_9, bne_iff_ne.mpr this]
      have hr := hs.r _ hm
      have hlen : (((A n).take i).foldl (addB n) bef (A n)[i]).length < 10000 := by
        have := addB_len n ((A n).take i) bef (A n)[i]
        have := hb (A n)[i]
        have : ((A n).take i).length ≤ 20 := Nat.le_trans (List.length_take_le ..) (by omega)
        omega
      have hp := pushV_ok (v := .int (n : Nat)) hr (by simpa using hlen)
      rw [natL_app] at hp
      refine ⟨frS st.length N sr ra lr (.int (n : Nat)) (.int ((A n)[i] : Nat)) x9, s.set (st.length + 4 + (A n)[i]) (.lst (natL (((A n).take i).foldl (addB n) bef (A n)[i] ++ [n]))), exs_cons (ex_ite hc ?_) exs_nil, ⟨_, rfl⟩, ?_⟩
      · simp only [if_true]
        refine exs_cons (ex_expr (ev_append (k := st.length + 4 + (A n)[i]) ?_ hr ?_ hp)) exs_nil
        · have g := hs.subb hm
          simp only [evq_fail, evq_int, evq_bool, evq_none, evq_var, evq_glob, evq_gtup, evq_bin, evq_un, evq_cmp, evq_ite, evq_notB, evq_andB, evq_orB, evq_truthy, evq_andV, evq_orV, evq_lst, evq_tup, evq_comp, evq_len, evq_range1, evq_range3, evq_listOf, evq_min, evq_intOf, evq_call, evq_new, evq_append, evq_extend, evq_attr, evq_sub, evq_slice, getV, List.set_cons_zero, List.set_cons_succ, List.getElem?_cons_zero, List.getElem?_cons_succ, Option.map_some, Option.bind_some, g]
        · rfl
      · rw [foldl_take_succ _ _ _ _ hi']
        exact hs.setr hm _)
    (frS st.length N sr ra lr (.int (n : Nat)) x8 x9) st1 ⟨⟨_, rfl⟩, by simpa using h⟩
  refine ⟨y8, st', ex_for (k := kk) (o := .lst (natL (A n))) (st1 := st1) ?_ (h.low.at hk2) h1, ?_⟩
  · have g := hsub st1 h.low
    simp only [evq_fail, evq_int, evq_bool, evq_none, evq_var, evq_glob, evq_gtup, evq_bin, evq_un, evq_cmp, evq_ite, evq_notB, evq_andB, evq_orB, evq_truthy, evq_andV, evq_orV, evq_lst, evq_tup, evq_comp, evq_len, evq_range1, evq_range3, evq_listOf, evq_min, evq_intOf, evq_call, evq_new, evq_append, evq_extend, evq_attr, evq_sub, evq_slice, getV, List.getElem?_cons_zero, List.getElem?_cons_succ, Option.map_some, Option.bind_some, g]
  · simpa using h2

noncomputable def buildBody : List MS := [.expr (.append (.var 4) (.len (.sub (.var 1) (.var 5)))), .for_ 8 (.sub (.var 1) (.var 5)) [.ite (.cmp (.NotEq) (.var 8) (.glob (-1))) [.expr (.append (.sub (.var 6) (.var 8)) (.var 5))] []], .ite (.truthy (.sub (.var 2) (.var 5))) [.setItem (.var 3) (.var 5) (.int 0), .expr (.append (.var 7) (.var 5))] []]

theorem vals0_succ (lo : Nat → Bool) (i : Nat) : vals0 lo (i + 1) = if lo i = true then upd (vals0 lo i) i 0 else vals0 lo i := by
  funext p
  by_cases h : lo i = true
  · rw [if_pos h]
    by_cases hp : p = i
    · subst hp; simp [vals0, upd_self, h]
    · rw [upd_ne _ _ hp]
      have : p < i + 1 ↔ p < i := by omega
      simp only [vals0, this]
  · rw [if_neg h]
    by_cases hp : p = i
    · subst hp; simp [vals0, h]
    · have : p < i + 1 ↔ p < i := by omega
      simp only [vals0, this]

theorem solve_build (c : Cfg) (hN : c.N = 2000) {st st1 : St} {sr ra lr N : Nat} {A : Nat → List Nat} {lo : Nat → Bool} {x5 x8 x9 : V}
    (hra : Rows st ra ((List.range N).map A)) (hA : ∀ n, n < N → ∀ q ∈ A n, q < N) (hAl : ∀ n, n < N → (A n).length ≤ 20) (hNl : N < 200)
    (hlr : st[lr]? = some (.lst ((List.range N).map fun p => V.bool (lo p)))) (h : SS st N (fun _ => -1) [] (fun _ => []) [] st1) :
    ∃ y5 y8 st2, ex c (.for_ 5 (.range1 (.len (.var 1))) buildBody) (frS st.length N sr ra lr x5 x8 x9) st1
      = some (.next, frS st.length N sr ra lr y5 y8 x9, st2) ∧ SS st N (vals0 lo N) ((List.range N).map fun p => ((A p).length : Int)) (befO A N) ((List.range N).filter lo) st2 := by
  obtain ⟨ks, hks1, hks2, _⟩ := id hra
  have hlenA : lenV st1 (.ref ra) = some N := by
    unfold lenV; simp only [h.low.at hks1, List.length_map]; simp [hks2]
  have hsm : smallI (N : Int) = true := by simp [smallI]; omega
  let P : Nat → List V → St → Prop := fun i fr s => (∃ y5 y8, fr = frS st.length N sr ra lr y5 y8 x9) ∧ SS st N (vals0 lo i) ((List.range i).map fun p => ((A p).length : Int)) (befO A i) ((List.range i).filter lo) s
  obtain ⟨fr', st', h1, ⟨y5, y8, rfl⟩, h2⟩ := for_range (body := fun fr st => exs c buildBody fr st) (slot := 5) (j := st1.length) (m := N) (n := c.N) P (by omega)
    (fun i hi fr s h => by
      obtain ⟨⟨y5, y8, rfl⟩, hs⟩ := h
      obtain ⟨kk, hk1, hk2⟩ := (hs.low.rows hra).get (i := i) (by simpa using hi)
      have hkA : ((List.range N).map A).getD i [] = A i := by simp [hi]
      rw [hkA] at hk2
      have hp := pushV_ok (v := .int ((A i).length : Int)) hs.l (by simp; omega)
      have e1 : (((List.range i).map fun p => ((A p).length : Int)).map V.int) ++ [.int ((A i).length : Int)] = ((List.range (i + 1)).map fun p => ((A p).length : Int)).map V.int := by
        simp [List.range_succ]
      rw [e1] at hp
      have hs1 := hs.setl ((List.range (i + 1)).map fun p => ((A p).length : Int))
      obtain ⟨y8', s2, g1, hs2⟩ := solve_pred c hN (sr := sr) (lr := lr) (x8 := y8) (x9 := x9) hra (hA i hi) (hAl i hi) hi (fun m => by have := befO_len A i (fun n hn => hAl n (by omega)) m; omega) hs1
      rw [← befO_succ] at hs2
      have hlo : subV s2 (.ref lr) (.int (i : Int)) = some (.bool (lo i)) := by
        unfold subV
        simp only [hs2.low.at hlr, Int.natCast_nonneg, if_true, Int.toNat_natCast]
        simp [hi]
      have hc : ev c (.truthy (.sub (.var 2) (.var 5))) (frS st.length N sr ra lr (.int (i : Nat)) y8' x9) s2 = some (.bool (lo i), s2) := by
        simp only [evq_fail, evq_int, evq_bool, evq_none, evq_var, evq_glob, evq_gtup, evq_bin, evq_un, evq_cmp, evq_ite, evq_notB, evq_andB, evq_orB, evq_truthy, evq_andV, evq_orV, evq_lst, evq_tup, evq_comp, evq_len, evq_range1, evq_range3, evq_listOf, evq_min, evq_intOf, evq_call, evq_new, evq_append, evq_extend, evq_attr, evq_sub, evq_slice, getV, List.getElem?_cons_zero, List.getElem?_cons_succ, Option.map_some, Option.bind_some, hlo, truthyV]
      have hfirst : ex c (.expr (.append (.var 4) (.len (.sub (.var 1) (.var 5))))) (frS st.length N sr ra lr (.int (i : Nat)) y8 x9) s = some (.next, frS st.length N sr ra lr (.int (i : Nat)) y8 x9, s.set (st.length + 2) (.lst (((List.range (i + 1)).map fun p => ((A p).length : Int)).map V.int))) := by
        refine ex_expr (ev_append (k := st.length + 2) rfl hs.l ?_ hp)
        simp only [evq_fail, evq_int, evq_bool, evq_none, evq_var, evq_glob, evq_gtup, evq_bin, evq_un, evq_cmp, evq_ite, evq_notB, evq_andB, evq_orB, evq_truthy, evq_andV, evq_orV, evq_lst, evq_tup, evq_comp, evq_len, evq_range1, evq_range3, evq_listOf, evq_min, evq_intOf, evq_call, evq_new, evq_append, evq_extend, evq_attr, evq_sub, evq_slice, getV, List.getElem?_cons_zero, List.getElem?_cons_succ, Option.map_some, Option.bind_some, hk1, lenV, hk2, List.length_map]
      cases hloi : lo i with
      | false =>
        rw [hloi] at hc
        refine ⟨frS st.length N sr ra lr (.int (i : Nat)) y8' x9, s2, exs_cons hfirst (exs_cons g1 (exs_cons (ex_ite hc ?_) exs_nil)), ⟨_, _, rfl⟩, ?_⟩
        · simp only [Bool.false_eq_true, if_false, exsq_nil, exsq_cons]
        · rw [vals0_succ, List.range_succ, List.filter_append]
          simpa [hloi, List.range_succ] using hs2
      | true =>
        rw [hloi] at hc
        have hs3 := hs2.setv i 0
        have hpq := pushV_ok (v := .int (i : Nat)) hs3.q (by
          have := List.length_filter_le lo (List.range i)
          simp at this ⊢; omega)
        rw [natL_app] at hpq
        have hs4 := hs3.setq ((List.range i).filter lo ++ [i])
        refine ⟨frS st.length N sr ra lr (.int (i : Nat)) y8' x9, (s2.set (st.length + 1) (.lst (((List.range N).map fun p => V.int (vals0 lo i p)).set i (.int 0)))).set (st.length + 4 + N) (.lst (natL ((List.range i).filter lo ++ [i]))), exs_cons hfirst (exs_cons g1 (exs_cons (ex_ite hc ?_) exs_nil)), ⟨_, _, rfl⟩, ?_⟩
        · simp only [if_true]
          refine exs_cons (fr' := frS st.length N sr ra lr (.int (i : Nat)) y8' x9) (st' := s2.set (st.length + 1) (.lst (((List.range N).map fun p => V.int (vals0 lo i p)).set i (.int 0)))) ?_ (exs_cons (ex_expr (ev_append (k := st.length + 4 + N) rfl hs3.q rfl hpq)) exs_nil)
          have hpi : putItem s2 (.ref (st.length + 1)) (.int (i : Int)) (.int 0) = some (s2.set (st.length + 1) (.lst (((List.range N).map fun p => V.int (vals0 lo i p)).set i (.int 0)))) := by
            unfold putItem
            simp only [hs2.v, Int.natCast_nonneg, Int.toNat_natCast, true_and, List.length_map, List.length_range, hi, if_true]
          simp only [exq_fail, exq_set, exq_setTup, exq_setTupR, exq_setItem, exq_setAttr, exq_augVar, exq_augItem, exq_expr, exq_ret, exq_ite, exq_for_, exq_whl, evq_fail, evq_int, evq_bool, evq_none, evq_var, evq_glob, evq_gtup, evq_bin, evq_un, evq_cmp, evq_ite, evq_notB, evq_andB, evq_orB, evq_truthy, evq_andV, evq_orV, evq_lst, evq_tup, evq_comp, evq_len, evq_range1, evq_range3, evq_listOf, evq_min, evq_intOf, evq_call, evq_new, evq_append, evq_extend, evq_attr, evq_sub, evq_slice, getV, List.getElem?_cons_zero, List.getElem?_cons_succ, Option.map_some, Option.bind_some, hpi]
        · rw [vals0_succ, if_pos hloi, List.range_succ, List.filter_append]
          have : List.filter lo [i] = [i] := by simp [hloi]
          rw [this, ← List.range_succ]
          exact hs4)
    (frS st.length N sr ra lr x5 x8 x9) (st1 ++ [O.rng 0 N 1]) ⟨⟨_, _, rfl⟩, by
      have : vals0 lo 0 = fun _ => -1 := by funext p; simp [vals0]
      rw [this]
      exact h.ext _⟩
  refine ⟨y5, y8, st', ex_for (k := st1.length) (o := .rng 0 N 1) (st1 := st1 ++ [O.rng 0 N 1]) ?_ (by simp) h1, h2⟩
  simp only [evq_fail, evq_int, evq_bool, evq_none, evq_var, evq_glob, evq_gtup, evq_bin, evq_un, evq_cmp, evq_ite, evq_notB, evq_andB, evq_orB, evq_truthy, evq_andV, evq_orV, evq_lst, evq_tup, evq_comp, evq_len, evq_range1, evq_range3, evq_listOf, evq_min, evq_intOf, evq_call, evq_new, evq_append, evq_extend, evq_attr, evq_sub, evq_slice, getV, List.getElem?_cons_zero, List.getElem?_cons_succ, Option.map_some, Option.bind_some, hlenA, hsm, if_true]
end Mine

-- N11
/-! solve: its main loop, and its whole run -/
namespace Mine
open PySem

structure PS where
  vals : Nat → Int
  left : Nat → Int
  queue : List Nat

noncomputable def stepN (sd : Nat → Nat) (m : Nat) (s : PS) (n : Nat) : PS :=
  if s.vals n = -1 ∧ (sd n = 0 ∨ s.left n - 1 = 0) then ⟨upd s.vals n (s.vals m + 1), upd s.left n (s.left n - 1), s.queue ++ [n]⟩
  else ⟨s.vals, upd s.left n (s.left n - 1), s.queue⟩

theorem stepN_len (sd : Nat → Nat) (m : Nat) (xs : List Nat) : ∀ s : PS, (xs.foldl (stepN sd m) s).queue.length ≤ s.queue.length + xs.length := by
  induction xs with
  | nil => intro s; simp
  | cons x r ih =>
    intro s
    have := ih (stepN sd m s x)
    have h2 : (stepN sd m s x).queue.length ≤ s.queue.length + 1 := by
      unfold stepN; split <;> simp
    simp only [List.foldl_cons, List.length_cons]; omega

noncomputable abbrev SP (st : St) (N : Nat) (bef : Nat → List Nat) (s : PS) (st1 : St) : Prop := SS st N s.vals ((List.range N).map s.left) bef s.queue st1

noncomputable def decBody : List MS := [.augItem (.var 4) (.var 5) (.Sub) (.int 1), .ite (.andB (.cmp (.Eq) (.sub (.var 3) (.var 5)) (.glob (-1))) (.orB (.cmp (.Eq) (.sub (.var 0) (.var 5)) (.glob 0)) (.cmp (.Eq) (.sub (.var 4) (.var 5)) (.int 0)))) [.setItem (.var 3) (.var 5) (.bin (.Add) (.sub (.var 3) (.var 8)) (.int 1)), .expr (.append (.var 7) (.var 5))] []]

section
variable {st st1 : St} {N : Nat} {vals : Nat → Int} {bef : Nat → List Nat} {queue : List Nat}
theorem SS.subv {lf : List Int} (h : SS st N vals lf bef queue st1) {m : Nat} (hm : m < N) : subV st1 (.ref (st.length + 1)) (.int (m : Int)) = some (.int (vals m)) := by
  unfold subV
  simp only [h.v, Int.natCast_nonneg, if_true, Int.toNat_natCast]
  simp [hm]
theorem SS.subl {left : Nat → Int} (h : SS st N vals ((List.range N).map left) bef queue st1) {m : Nat} (hm : m < N) : subV st1 (.ref (st.length + 2)) (.int (m : Int)) = some (.int (left m)) := by
  unfold subV
  simp only [h.l, Int.natCast_nonneg, if_true, Int.toNat_natCast]
  simp [hm]
theorem SS.putv {lf : List Int} (h : SS st N vals lf bef queue st1) {m : Nat} (hm : m < N) (x : Int) : ∃ st2, putItem st1 (.ref (st.length + 1)) (.int (m : Int)) (.int x) = some st2 ∧ SS st N (upd vals m x) lf bef queue st2 := by
  refine ⟨_, ?_, h.setv m x⟩
  unfold putItem
  simp only [h.v, Int.natCast_nonneg, Int.toNat_natCast, true_and, List.length_map, List.length_range, hm, if_true]
theorem SS.putl {left : Nat → Int} (h : SS st N vals ((List.range N).map left) bef queue st1) {m : Nat} (hm : m < N) (x : Int) : ∃ st2, putItem st1 (.ref (st.length + 2)) (.int (m : Int)) (.int x) = some st2 ∧ SS st N vals ((List.range N).map (upd left m x)) bef queue st2 := by
  have e : ((List.range N).map fun i => V.int (left i)).set m (V.int x) = ((List.range N).map (upd left m x)).map V.int := by
    rw [set_range V.int left N m x, List.map_map]; rfl
  refine ⟨st1.set (st.length + 2) (.lst (((List.range N).map (upd left m x)).map V.int)), ?_, h.setl _⟩
  have hl := h.l
  rw [List.map_map] at hl
  rw [← e]
  unfold putItem
  simp only [hl, Int.natCast_nonneg, Int.toNat_natCast, true_and, List.length_map, List.length_range, hm, if_true]
  rfl
theorem SS.pushq {lf : List Int} (h : SS st N vals lf bef queue st1) (hq : queue.length < 10000) (n : Nat) : ∃ st2, pushV st1 (st.length + 4 + N) (.int (n : Int)) = some st2 ∧ SS st N vals lf bef (queue ++ [n]) st2 := by
  refine ⟨_, ?_, h.setq _⟩
  rw [pushV_ok h.q (by simpa using hq), natL_app]
end

theorem dec_step (c : Cfg) {st st1 : St} {sr ra lr N n m : Nat} {sd : Nat → Nat} {bef : Nat → List Nat} {s : PS} {x9 : V}
    (hsr : st[sr]? = some (.lst ((List.range N).map fun p => V.int (sd p)))) (hn : n < N) (hm : m < N) (hq : s.queue.length < 10000) (h : SP st N bef s st1) :
    ∃ st2, exs c decBody (frS st.length N sr ra lr (.int (n : Nat)) (.int (m : Nat)) x9) st1 = some (.next, frS st.length N sr ra lr (.int (n : Nat)) (.int (m : Nat)) x9, st2) ∧ SP st N bef (stepN sd m s n) st2 := by
  obtain ⟨s2, h1, h2⟩ := SS.putl h hn (s.left n - 1)
  have hl := SS.subl h hn
  have e1 : ex c (.augItem (.var 4) (.var 5) (.Sub) (.int 1)) (frS st.length N sr ra lr (.int (n : Nat)) (.int (m : Nat)) x9) st1 = some (.next, frS st.length N sr ra lr (.int (n : Nat)) (.int (m : Nat)) x9, s2) := by
    simp only [exq_fail, exq_set, exq_setTup, exq_setTupR, exq_setItem, exq_setAttr, exq_augVar, exq_augItem, exq_expr, exq_ret, exq_ite, exq_for_, exq_whl, evq_fail, evq_int, evq_bool, evq_none, evq_var, evq_glob, evq_gtup, evq_bin, evq_un, evq_cmp, evq_ite, evq_notB, evq_andB, evq_orB, evq_truthy, evq_andV, evq_orV, evq_lst, evq_tup, evq_comp, evq_len, evq_range1, evq_range3, evq_listOf, evq_min, evq_intOf, evq_call, evq_new, evq_append, evq_extend, evq_attr, evq_sub, evq_slice, getV, List.getElem?_cons_zero, List.getElem?_cons_succ, Option.map_some, Option.bind_some, hl, h1]
  have hv2 := SS.subv h2 hn
  have hl2 := SS.subl h2 hn
  rw [upd_self] at hl2
  have hsd : subV s2 (.ref sr) (.int (n : Int)) = some (.int (sd n)) := by
    unfold subV
    simp only [h2.low.at hsr, Int.natCast_nonneg, if_true, Int.toNat_natCast]
    simp [hn]
  have hc : ev c (.andB (.cmp (.Eq) (.sub (.var 3) (.var 5)) (.glob (-1))) (.orB (.cmp (.Eq) (.sub (.var 0) (.var 5)) (.glob 0)) (.cmp (.Eq) (.sub (.var 4) (.var 5)) (.int 0)))) (frS st.length N sr ra lr (.int (n : Nat)) (.int (m : Nat)) x9) s2 = some (.bool (decide (s.vals n = -1 ∧ (sd n = 0 ∨ s.left n - 1 = 0))), s2) := by
    have e : ((sd n : Int) = 0) = (sd n = 0) := by rw [eq_iff_iff]; omega
    have g1 : (s.vals n == -1) = decide (s.vals n = -1) := rfl
    have g2 : ((sd n : Int) == 0) = decide (sd n = 0) := by rw [Bool.eq_iff_iff]; simp
    have g3 : (s.left n - 1 == 0) = decide (s.left n - 1 = 0) := rfl
    simp only [evq_fail, evq_int, evq_bool, evq_none, evq_var, evq_glob, evq_gtup, evq_bin, evq_un, evq_cmp, evq_ite, evq_notB, evq_andB, evq_orB, evq_truthy, evq_andV, evq_orV, evq_lst, evq_tup, evq_comp, evq_len, evq_range1, evq_range3, evq_listOf, evq_min, evq_intOf, evq_call, evq_new, evq_append, evq_extend, evq_attr, evq_sub, evq_slice, getV, List.getElem?_cons_zero, List.getElem?_cons_succ, Option.map_some, Option.bind_some, hv2, cmpq_0, cmpq_1, cmpq_2, cmpq_3, cmpq_4, cmpq_5, cmpq_6, cmpq_7, cmpq_8, cmpq_9, g1]
    by_cases hv : s.vals n = -1
    · simp only [hv, decide_true, hsd, cmpq_0, cmpq_1, cmpq_2, cmpq_3, cmpq_4, cmpq_5, cmpq_6, cmpq_7, cmpq_8, cmpq_9, Option.map_some, Option.bind_some, g2, true_and]
      by_cases hs : sd n = 0
      · simp only [hs, decide_true, true_or]
      · simp only [hs, decide_false, hl2, cmpq_0, cmpq_1, cmpq_2, cmpq_3, cmpq_4, cmpq_5, cmpq_6, cmpq_7, cmpq_8, cmpq_9, Option.map_some, Option.bind_some, g3, false_or]
    · simp only [hv, decide_false, false_and]
  by_cases hcase : s.vals n = -1 ∧ (sd n = 0 ∨ s.left n - 1 = 0)
  · rw [decide_eq_true hcase] at hc
    obtain ⟨s3, h3, h4⟩ := SS.putv h2 hn (s.vals m + 1)
    obtain ⟨s4, h5, h6⟩ := SS.pushq h4 hq n
    refine ⟨s4, exs_cons e1 (exs_cons (ex_ite hc ?_) exs_nil), ?_⟩
    · simp only [if_true]
      refine exs_cons (fr' := frS st.length N sr ra lr (.int (n : Nat)) (.int (m : Nat)) x9) (st' := s3) ?_ (exs_cons (ex_expr (ev_append (k := st.length + 4 + N) rfl h4.q rfl h5)) exs_nil)
      have hvm := SS.subv h2 hm
      simp only [exq_fail, exq_set, exq_setTup, exq_setTupR, exq_setItem, exq_setAttr, exq_augVar, exq_augItem, exq_expr, exq_ret, exq_ite, exq_for_, exq_whl, evq_fail, evq_int, evq_bool, evq_none, evq_var, evq_glob, evq_gtup, evq_bin, evq_un, evq_cmp, evq_ite, evq_notB, evq_andB, evq_orB, evq_truthy, evq_andV, evq_orV, evq_lst, evq_tup, evq_comp, evq_len, evq_range1, evq_range3, evq_listOf, evq_min, evq_intOf, evq_call, evq_new, evq_append, evq_extend, evq_attr, evq_sub, evq_slice, getV, List.getElem?_cons_zero, List.getElem?_cons_succ, Option.map_some, Option.bind_some, hvm, binq_0, binq_1, binq_2, binq_3, binq_4, binq_5, binq_6, binq_7, binq_8, binq_9, binq_10, binq_11, h3]
    · unfold SP stepN; rw [if_pos hcase]; exact h6
  · rw [decide_eq_false hcase] at hc
    refine ⟨s2, exs_cons e1 (exs_cons (ex_ite hc ?_) exs_nil), ?_⟩
    · simp only [Bool.false_eq_true, if_false, exsq_nil, exsq_cons]
    · unfold SP stepN; rw [if_neg hcase]; exact h2

theorem dec_loop (c : Cfg) (hN : c.N = 2000) {st st1 : St} {sr ra lr N m : Nat} {sd : Nat → Nat} {bef : Nat → List Nat} {s : PS} {x5 x9 : V}
    (hsr : st[sr]? = some (.lst ((List.range N).map fun p => V.int (sd p)))) (hm : m < N) (hbl : ∀ q ∈ bef m, q < N) (hbn : (bef m).length < 2000) (hq : s.queue.length ≤ 1000) (h : SP st N bef s st1) :
    ∃ y5 st2, ex c (.for_ 5 (.sub (.var 6) (.var 8)) decBody) (frS st.length N sr ra lr x5 (.int (m : Nat)) x9) st1 = some (.next, frS st.length N sr ra lr y5 (.int (m : Nat)) x9, st2) ∧ SP st N bef ((bef m).foldl (stepN sd m) s) st2 := by
  let P : Nat → List V → St → Prop := fun i fr st1 => (∃ y5, fr = frS st.length N sr ra lr y5 (.int (m : Nat)) x9) ∧ SP st N bef (((bef m).take i).foldl (stepN sd m) s) st1
  obtain ⟨fr', st', h1, ⟨y5, rfl⟩, h2⟩ := for_vals (body := fun fr st => exs c decBody fr st) (slot := 5) (j := st.length + 4 + m) (o := .lst (natL (bef m))) (xs := natL (bef m)) (n := c.N) P (by simp; omega)
    (fun i fr s h => by simp only [nextItem, h.2.r m hm])
    (fun i hi fr st1 h => by
      obtain ⟨⟨y5, rfl⟩, hs⟩ := h
      have hi' : i < (bef m).length := by simpa using hi
      have hxs : (natL (bef m))[i] = .int ((bef m)[i] : Nat) := by simp
      rw [hxs]
      obtain ⟨st2, g1, g2⟩ := dec_step c (ra := ra) (lr := lr) (x9 := x9) hsr (hbl _ (List.getElem_mem hi')) hm (by
        have := stepN_len sd m ((bef m).take i) s
        have := List.length_take_le i (bef m)
        have : ((bef m).take i).length ≤ (bef m).length := by rw [List.length_take]; exact Nat.min_le_right ..
        omega) hs
      refine ⟨_, st2, g1, ⟨_, rfl⟩, ?_⟩
      rw [foldl_take_succ _ _ _ _ hi']
      exact g2)
    (frS st.length N sr ra lr x5 (.int (m : Nat)) x9) st1 ⟨⟨_, rfl⟩, by simpa using h⟩
  refine ⟨y5, st', ex_for (k := st.length + 4 + m) (o := .lst (natL (bef m))) (st1 := st1) ?_ (h.r m hm) h1, ?_⟩
  · have g := h.subb hm
    simp only [evq_fail, evq_int, evq_bool, evq_none, evq_var, evq_glob, evq_gtup, evq_bin, evq_un, evq_cmp, evq_ite, evq_notB, evq_andB, evq_orB, evq_truthy, evq_andV, evq_orV, evq_lst, evq_tup, evq_comp, evq_len, evq_range1, evq_range3, evq_listOf, evq_min, evq_intOf, evq_call, evq_new, evq_append, evq_extend, evq_attr, evq_sub, evq_slice, getV, List.getElem?_cons_zero, List.getElem?_cons_succ, Option.map_some, Option.bind_some, g]
  · simpa using h2

theorem solve_whl (c : Cfg) (hN : c.N = 2000) {st st1 : St} {sr ra lr N : Nat} {sd : Nat → Nat} {bef : Nat → List Nat} {s : PS} {x5 x8 : V}
    (hNl : N < 200) (hsr : st[sr]? = some (.lst ((List.range N).map fun p => V.int (sd p)))) (hbl : ∀ m, ∀ q ∈ bef m, q < N) (hbn : ∀ m, (bef m).length < 2000)
    (MI : Nat → PS → Prop) (hMq : ∀ a s, MI a s → a ≤ s.queue.length ∧ s.queue.length ≤ N ∧ ∀ q ∈ s.queue, q < N) (hMs : ∀ a s m, MI a s → s.queue[a]? = some m → MI (a + 1) ((bef m).foldl (stepN sd m) s))
    (h0 : MI 0 s) (h : SP st N bef s st1) :
    ∃ fr' st2 s', ex c (.whl (.cmp (.Lt) (.var 9) (.len (.var 7))) [.set 8 (.sub (.var 7) (.var 9)), .augVar 9 (.Add) (.int 1), .for_ 5 (.sub (.var 6) (.var 8)) decBody]) (frS st.length N sr ra lr x5 x8 (.int 0)) st1
      = some (.next, fr', st2) ∧ (∃ y5 y8 y9, fr' = frS st.length N sr ra lr y5 y8 y9) ∧ MI s'.queue.length s' ∧ SP st N bef s' st2 := by
  let I : Nat → List V → St → Prop := fun k fr st1 => ∃ y5 y8 a s, fr = frS st.length N sr ra lr y5 y8 (.int (a : Nat)) ∧ SP st N bef s st1 ∧ MI a s ∧ N + 1 - a ≤ k
  let Q : Fl × List V × St → Prop := fun p => p.1 = .next ∧ (∃ y5 y8 y9, p.2.1 = frS st.length N sr ra lr y5 y8 y9) ∧ ∃ s', MI s'.queue.length s' ∧ SP st N bef s' p.2.2
  obtain ⟨⟨f, fr', st2⟩, h1, h2, h3, s', h4, h5⟩ := whl_ok (cond := fun fr st => ev c (.cmp (.Lt) (.var 9) (.len (.var 7))) fr st) (body := fun fr st => exs c [.set 8 (.sub (.var 7) (.var 9)), .augVar 9 (.Add) (.int 1), .for_ 5 (.sub (.var 6) (.var 8)) decBody] fr st) I Q (by
    rintro k fr st1 ⟨y5, y8, a, s, rfl, hs, hM, hk⟩
    obtain ⟨hMa, hM1, hM2⟩ := hMq a s hM
    have hc : ev c (.cmp (.Lt) (.var 9) (.len (.var 7))) (frS st.length N sr ra lr y5 y8 (.int (a : Nat))) st1 = some (.bool (decide (a < s.queue.length)), st1) := by
      simp only [evq_fail, evq_int, evq_bool, evq_none, evq_var, evq_glob, evq_gtup, evq_bin, evq_un, evq_cmp, evq_ite, evq_notB, evq_andB, evq_orB, evq_truthy, evq_andV, evq_orV, evq_lst, evq_tup, evq_comp, evq_len, evq_range1, evq_range3, evq_listOf, evq_min, evq_intOf, evq_call, evq_new, evq_append, evq_extend, evq_attr, evq_sub, evq_slice, getV, List.getElem?_cons_zero, List.getElem?_cons_succ, Option.map_some, Option.bind_some, lenV, hs.q, List.length_map, cmpq_0, cmpq_1, cmpq_2, cmpq_3, cmpq_4, cmpq_5, cmpq_6, cmpq_7, cmpq_8, cmpq_9]
      congr 3
      rw [decide_eq_decide]; omega
    refine ⟨_, _, hc, ?_, ?_⟩
    · intro h
      have h : ¬ a < s.queue.length := by simpa using h
      have : a = s.queue.length := by omega
      subst this
      exact ⟨rfl, ⟨_, _, _, rfl⟩, s, hM, hs⟩
    · intro h
      have h : a < s.queue.length := by simpa using h
      have hm := List.getElem?_eq_getElem h
      have hmN := hM2 _ (List.getElem_mem h)
      have hsub : subV st1 (.ref (st.length + 4 + N)) (.int (a : Int)) = some (.int (s.queue[a] : Nat)) := by
        unfold subV
        simp only [hs.q, Int.natCast_nonneg, if_true, Int.toNat_natCast]
        simp [h]
      have e8 : ex c (.set 8 (.sub (.var 7) (.var 9))) (frS st.length N sr ra lr y5 y8 (.int (a : Nat))) st1 = some (.next, frS st.length N sr ra lr y5 (.int (s.queue[a] : Nat)) (.int (a : Nat)), st1) := by
        simp only [exq_fail, exq_set, exq_setTup, exq_setTupR, exq_setItem, exq_setAttr, exq_augVar, exq_augItem, exq_expr, exq_ret, exq_ite, exq_for_, exq_whl, evq_fail, evq_int, evq_bool, evq_none, evq_var, evq_glob, evq_gtup, evq_bin, evq_un, evq_cmp, evq_ite, evq_notB, evq_andB, evq_orB, evq_truthy, evq_andV, evq_orV, evq_lst, evq_tup, evq_comp, evq_len, evq_range1, evq_range3, evq_listOf, evq_min, evq_intOf, evq_call, evq_new, evq_append, evq_extend, evq_attr, evq_sub, evq_slice, getV, List.getElem?_cons_zero, List.getElem?_cons_succ, Option.map_some, Option.bind_some, hsub, List.set_cons_zero, List.set_cons_succ]
      have e9 : ex c (.augVar 9 (.Add) (.int 1)) (frS st.length N sr ra lr y5 (.int (s.queue[a] : Nat)) (.int (a : Nat))) st1 = some (.next, frS st.length N sr ra lr y5 (.int (s.queue[a] : Nat)) (.int ((a + 1 : Nat) : Int)), st1) := by
        simp only [exq_fail, exq_set, exq_setTup, exq_setTupR, exq_setItem, exq_setAttr, exq_augVar, exq_augItem, exq_expr, exq_ret, exq_ite, exq_for_, exq_whl, evq_fail, evq_int, evq_bool, evq_none, evq_var, evq_glob, evq_gtup, evq_bin, evq_un, evq_cmp, evq_ite, evq_notB, evq_andB, evq_orB, evq_truthy, evq_andV, evq_orV, evq_lst, evq_tup, evq_comp, evq_len, evq_range1, evq_range3, evq_listOf, evq_min, evq_intOf, evq_call, evq_new, evq_append, evq_extend, evq_attr, evq_sub, evq_slice, getV, List.getElem?_cons_zero, List.getElem?_cons_succ, Option.map_some, Option.bind_some, List.set_cons_zero, List.set_cons_succ]
        rfl
      obtain ⟨y5', st2, g1, g2⟩ := dec_loop c hN (sr := sr) (ra := ra) (lr := lr) (x5 := y5) (x9 := .int ((a + 1 : Nat) : Int)) hsr hmN (hbl _) (hbn _) (by omega) hs
      exact ⟨.next, _, st2, exs_cons e8 (exs_cons e9 (exs_cons g1 exs_nil)), .inl ⟨rfl, k - 1, by omega, _, _, a + 1, _, rfl, g2, hMs a s _ hM hm, by omega⟩⟩)
    c.N (N + 1) (frS st.length N sr ra lr x5 x8 (.int 0)) st1 ⟨_, _, 0, s, rfl, h, h0, by omega⟩ (by omega)
  simp only at h2 h3 h5
  subst h2
  exact ⟨fr', st2, s', by rw [← h1]; simp only [exq_fail, exq_set, exq_setTup, exq_setTupR, exq_setItem, exq_setAttr, exq_augVar, exq_augItem, exq_expr, exq_ret, exq_ite, exq_for_, exq_whl], h3, h4, h5⟩

theorem solve_run (scr : List Int) (d : Nat) {st : St} {sr ra lr N : Nat} {A : Nat → List Nat} {sd : Nat → Nat} {lo : Nat → Bool} (hNl : N < 200)
    (hra : Rows st ra ((List.range N).map A)) (hA : ∀ n, n < N → ∀ q ∈ A n, q < N) (hAl : ∀ n, n < N → (A n).length ≤ 20)
    (hsr : st[sr]? = some (.lst ((List.range N).map fun p => V.int (sd p)))) (hlr : st[lr]? = some (.lst ((List.range N).map fun p => V.bool (lo p))))
    (hbl : ∀ m, ∀ q ∈ befO A N m, q < N) (hbn : ∀ m, (befO A N m).length < 2000)
    (MI : Nat → PS → Prop) (hMq : ∀ a s, MI a s → a ≤ s.queue.length ∧ s.queue.length ≤ N ∧ ∀ q ∈ s.queue, q < N) (hMs : ∀ a s m, MI a s → s.queue[a]? = some m → MI (a + 1) ((befO A N m).foldl (stepN sd m) s))
    (h0 : MI 0 ⟨vals0 lo N, fun p => ((A p).length : Int), (List.range N).filter lo⟩) :
    ∃ r ext s', run myFns 2000 scr theTups (d + 1) 10 [.ref sr, .ref ra, .ref lr] st = some (.ref r, st ++ ext) ∧ MI s'.queue.length s' ∧ (st ++ ext)[r]? = some (.lst ((List.range N).map fun p => V.int (s'.vals p))) := by
  let c : Cfg := ⟨2000, run myFns 2000 scr theTups d, scr, theTups⟩
  obtain ⟨ks, hks1, hks2, _⟩ := id hra
  obtain ⟨st1, h1, hs1⟩ := solve_head c rfl (sr := sr) (lr := lr) (N := N) hks1 (by simp [hks2]) (by omega)
  obtain ⟨y5, y8, st2, h2, hs2⟩ := solve_build c rfl (x5 := .undef) (x8 := .undef) (x9 := .undef) hra hA hAl hNl hlr hs1
  obtain ⟨fr', st3, s', h3, ⟨z5, z8, z9, rfl⟩, h4, hs3⟩ := solve_whl c rfl (ra := ra) (lr := lr) (x5 := y5) (x8 := y8) (s := ⟨vals0 lo N, fun p => ((A p).length : Int), (List.range N).filter lo⟩) hNl hsr hbl hbn MI hMq hMs h0 hs2
  obtain ⟨ext, rfl⟩ := ext_of hs3.low.2
  refine ⟨st.length + 1, ext, s', run_of (fn := ⟨3, 8, solveB⟩) rfl rfl (fr := frS st.length N sr ra lr z5 z8 z9) ?_, h4, hs3.v⟩
  show exs c solveB [.ref sr, .ref ra, .ref lr, .undef, .undef, .undef, .undef, .undef, .undef, .undef, .undef] st = _
  have e9 : ex c (.set 9 (.int 0)) (frS st.length N sr ra lr y5 y8 .undef) st2 = some (.next, frS st.length N sr ra lr y5 y8 (.int 0), st2) := by
    simp only [exq_fail, exq_set, exq_setTup, exq_setTupR, exq_setItem, exq_setAttr, exq_augVar, exq_augItem, exq_expr, exq_ret, exq_ite, exq_for_, exq_whl, evq_fail, evq_int, evq_bool, evq_none, evq_var, evq_glob, evq_gtup, evq_bin, evq_un, evq_cmp, evq_ite, evq_notB, evq_andB, evq_orB, evq_truthy, evq_andV, evq_orV, evq_lst, evq_tup, evq_comp, evq_len, evq_range1, evq_range3, evq_listOf, evq_min, evq_intOf, evq_call, evq_new, evq_append, evq_extend, evq_attr, evq_sub, evq_slice, Option.map_some, List.set_cons_zero, List.set_cons_succ]
  have happ : ∀ (a b : List MS) fr s fr' s', exs c a fr s = some (.next, fr', s') → exs c (a ++ b) fr s = exs c b fr' s' := by
    intro a
    induction a with
    | nil => intro b fr s fr' s' h; simp only [exsq_nil, exsq_cons, Option.some.injEq, Prod.mk.injEq, true_and] at h; obtain ⟨rfl, rfl⟩ := h; rfl
    | cons x r ih =>
      intro b fr s fr' s' h
      simp only [exsq_nil, exsq_cons, List.cons_append] at h ⊢
      cases hx : ex c x fr s with
      | none => rw [hx] at h; simp at h
      | some p =>
        obtain ⟨f, fr1, s1⟩ := p
        rw [hx] at h
        simp only [Option.bind_some] at h ⊢
        cases f with
        | next => exact ih b fr1 s1 fr' s' h
        | ret v => simp at h
  exact (happ _ _ _ _ _ _ h1).trans (exs_cons h2 (exs_cons e9 (exs_cons h3 (exs_ret (ex_ret (by rfl))))))
end Mine

-- N12
/-! solve: what its loop computes, in plain Lean -/
namespace Mine
open PySem

theorem befO_len' (k : Nat) (A : Nat → List Nat) : ∀ (i : Nat), (∀ n, n < i → (A n).length ≤ k) → ∀ m, (befO A i m).length ≤ k * i := by
  intro i
  induction i with
  | zero => intro _ m; simp [befO]
  | succ i ih =>
    intro h m
    rw [befO_succ]
    have := addB_len i (A i) (befO A i) m
    have := ih (fun n hn => h n (by omega)) m
    have := h i (by omega)
    rw [Nat.mul_add]; omega

theorem addB_count (n : Nat) (xs : List Nat) : ∀ (b : Nat → List Nat) (m p : Nat), (xs.foldl (addB n) b m).count p = (b m).count p + if p = n then xs.count m else 0 := by
  induction xs with
  | nil => intro b m p; simp
  | cons x r ih =>
    intro b m p
    rw [List.foldl_cons, ih]
    by_cases hm : m = x
    · subst hm
      simp only [addB, upd_self, List.count_append, List.count_cons, List.count_nil]
      by_cases hp : p = n
      · subst hp; simp; omega
      · have : (n == p) = false := by simpa using fun h => hp h.symm
        simp [hp, this]
    · simp only [addB, upd_ne b _ hm]
      have : (x == m) = false := by simpa using fun h => hm h.symm
      simp [List.count_cons, this]

theorem befO_count (A : Nat → List Nat) : ∀ (i m p : Nat), (befO A i m).count p = if p < i then (A p).count m else 0 := by
  intro i
  induction i with
  | zero => intro m p; simp [befO]
  | succ i ih =>
    intro m p
    rw [befO_succ, addB_count, ih]
    by_cases h : p = i
    · subst h; simp
    · have : p < i + 1 ↔ p < i := by omega
      simp [h, this]

theorem count_split (D : List Nat) (m : Nat) (hm : m ∉ D) (xs : List Nat) : xs.countP (fun q => !D.contains q) = xs.countP (fun q => !(D ++ [m]).contains q) + xs.count m := by
  induction xs with
  | nil => rfl
  | cons x r ih =>
    simp only [List.countP_cons, List.count_cons, ih]
    by_cases h : x = m
    · subst h
      have h1 : D.contains x = false := by simpa using hm
      have h2 : (D ++ [x]).contains x = true := by simp
      simp only [h1, h2, Bool.not_true, Bool.not_false, Bool.false_eq_true, if_true, if_false, beq_self_eq_true]; omega
    · have h2 : (D ++ [m]).contains x = D.contains x := by
        rw [Bool.eq_iff_iff]; simp [h]
      have h3 : (x == m) = false := by simpa using h
      rw [h2, h3]
      simp only [Bool.false_eq_true, if_false]; omega

section
variable (N : Nat) (A : Nat → List Nat) (sd : Nat → Nat) (lo : Nat → Bool)

noncomputable def Cl (X : Nat → Prop) : Prop :=
  (∀ p, p < N → lo p = true → X p) ∧ (∀ p, p < N → sd p = 0 → ∀ q ∈ A p, X q → X p) ∧ (∀ p, p < N → sd p ≠ 0 → A p ≠ [] → (∀ q ∈ A p, X q) → X p)

/-- what holds all along -/
structure Base (s : PS) : Prop where
  nd : s.queue.Nodup
  lt : ∀ q ∈ s.queue, q < N
  vq : ∀ p, p < N → (s.vals p ≠ -1 ↔ p ∈ s.queue)
  vnn : ∀ p ∈ s.queue, 0 ≤ s.vals p
  lost : ∀ p, p < N → lo p = true → s.vals p = 0
  par : ∀ p ∈ s.queue, lo p = false → s.vals p % 2 = if sd p = 0 then 1 else 0
  first : ∃ Q0 Q1, s.queue = Q0 ++ Q1 ∧ (∀ q ∈ Q0, lo q = true) ∧ (∀ q ∈ Q1, lo q = false)
  least : ∀ X, Cl N A sd lo X → ∀ q ∈ s.queue, X q
  c1 : ∀ p, p < N → sd p ≠ 0 → A p ≠ [] → s.left p = 0 → p ∈ s.queue

structure MI (a : Nat) (s : PS) : Prop where
  base : Base N A sd lo s
  ale : a ≤ s.queue.length
  left : ∀ p, p < N → s.left p = ((A p).countP (fun q => !(s.queue.take a).contains q) : Nat)
  c0 : ∀ p, p < N → sd p = 0 → ∀ q ∈ A p, q ∈ s.queue.take a → p ∈ s.queue

structure MJ (m : Nat) (D used : List Nat) (s : PS) : Prop where
  base : Base N A sd lo s
  pre : ∃ T, s.queue = D ++ m :: T
  left : ∀ p, p < N → s.left p = ((A p).countP (fun q => !D.contains q) : Nat) - (used.count p : Nat)
  c0 : ∀ p, p < N → sd p = 0 → ∀ q ∈ A p, q ∈ D → p ∈ s.queue
  c0' : ∀ p ∈ used, sd p = 0 → p ∈ s.queue

variable {N A sd lo}
theorem MJ_step (hsides : ∀ p, p < N → ∀ q ∈ A p, (sd p = 0 ↔ sd q ≠ 0)) (hstay : ∀ p, p < N → sd p ≠ 0 → lo p = false → ∃ q ∈ A p, lo q = false)
    {m n : Nat} {D used : List Nat} {s : PS} (h : MJ N A sd lo m D used s) (hn : n < N) (hcnt : (used ++ [n]).count n ≤ (A n).count m) : MJ N A sd lo m D (used ++ [n]) (stepN sd m s n) := by
  obtain ⟨⟨nd, lt, vq, vnn, lost, par, first, least, c1⟩, ⟨T, pre⟩, left, c0, c0'⟩ := h
  have hcn : (used ++ [n]).count n = used.count n + 1 := by simp
  have hcp : ∀ p, p ≠ n → (used ++ [n]).count p = used.count p := by
    intro p hp
    have : (n == p) = false := by simpa using fun h => hp h.symm
    simp [List.count_cons, this]
  have hmA : m ∈ A n := List.count_pos_iff.mp (by omega)
  have hmq : m ∈ s.queue := by rw [pre]; simp
  have hmN : m < N := lt m hmq
  have hmD : m ∉ D := by
    rw [pre] at nd
    intro hm
    exact (List.nodup_append.mp nd).2.2 m hm m (by simp) rfl
  have hleft : ∀ p, p < N → upd s.left n (s.left n - 1) p = ((A p).countP (fun q => !D.contains q) : Nat) - ((used ++ [n]).count p : Nat) := by
    intro p hp
    by_cases hpn : p = n
    · subst hpn
      rw [upd_self, left p hp, hcn]; omega
    · rw [upd_ne _ _ hpn, left p hp, hcp p hpn]
  by_cases hc : s.vals n = -1 ∧ (sd n = 0 ∨ s.left n - 1 = 0)
  · have hnq : n ∉ s.queue := fun hq => (vq n hn).mpr hq hc.1
    have hlo : lo n = false := by
      cases h : lo n with
      | false => rfl
      | true => have := lost n hn h; omega
    have hall : s.left n - 1 = 0 → ∀ q ∈ A n, q ∈ D ∨ q = m := by
      intro h0 q hq
      have h1 := hleft n hn
      rw [upd_self, h0] at h1
      have h2 := count_split D m hmD (A n)
      have h3 : (A n).countP (fun q => !(D ++ [m]).contains q) = 0 := by omega
      have := List.countP_eq_zero.mp h3 q hq
      by_cases hqD : q ∈ D
      · exact .inl hqD
      · exact .inr (by simpa [hqD] using this)
    have hst : stepN sd m s n = ⟨upd s.vals n (s.vals m + 1), upd s.left n (s.left n - 1), s.queue ++ [n]⟩ := by unfold stepN; rw [if_pos hc]
    rw [hst]
    have hvm := vnn m hmq
    refine ⟨⟨?_, ?_, ?_, ?_, ?_, ?_, ?_, ?_, ?_⟩, ⟨T ++ [n], by simp [pre]⟩, hleft, ?_, ?_⟩
    · rw [List.nodup_append]
      refine ⟨nd, by simp, ?_⟩
      intro x hx y hy hxy
      simp only [List.mem_singleton] at hy
      subst hy; subst hxy
      exact hnq hx
    · intro q hq
      rcases List.mem_append.mp hq with h | h
      · exact lt q h
      · simp only [List.mem_singleton] at h; omega
    · intro p hp
      by_cases hpn : p = n
      · subst hpn
        simp only [upd_self]
        constructor
        · intro _; simp
        · intro _; omega
      · simp only [upd_ne _ _ hpn, vq p hp]
        simp [hpn]
    · intro p hp
      by_cases hpn : p = n
      · subst hpn; simp only [upd_self]; omega
      · simp only [upd_ne _ _ hpn]
        exact vnn p (by simpa [hpn] using hp)
    · intro p hp hl
      have : p ≠ n := by rintro rfl; rw [hl] at hlo; exact Bool.noConfusion hlo
      simp only [upd_ne _ _ this]
      exact lost p hp hl
    · intro p hp hl
      by_cases hpn : p = n
      · subst hpn
        simp only [upd_self]
        have hs := hsides p hn m hmA
        by_cases hs0 : sd p = 0
        · rw [if_pos hs0]
          cases hlm : lo m with
          | true => rw [lost m hmN hlm]; rfl
          | false =>
            have := par m hmq hlm
            rw [if_neg (hs.mp hs0)] at this
            omega
        · rw [if_neg hs0]
          have hA := hall (by rcases hc.2 with h | h; · exact absurd h hs0
                              · exact h)
          have hlm : lo m = false := by
            cases hlm : lo m with
            | false => rfl
            | true =>
              exfalso
              obtain ⟨Q0, Q1, hQ, hQ0, hQ1⟩ := first
              rw [pre] at hQ
              obtain ⟨q, hq, hql⟩ := hstay p hn hs0 hl
              rcases List.append_eq_append_iff.mp hQ with ⟨as, h1, h2⟩ | ⟨bs, h1, h2⟩
              · have : lo q = true := by
                  rcases hA q hq with h | h
                  · exact hQ0 q (by rw [h1]; simp [h])
                  · rw [h]; exact hlm
                rw [this] at hql; exact Bool.noConfusion hql
              · have := hQ1 m (by rw [h2]; simp)
                rw [this] at hlm; exact Bool.noConfusion hlm
          have := par m hmq hlm
          have hm0 : sd m = 0 := by
            by_cases h : sd m = 0
            · exact h
            · exact absurd (hs.mpr h) hs0
          rw [if_pos hm0] at this
          omega
      · simp only [upd_ne _ _ hpn]
        exact par p (by simpa [hpn] using hp) hl
    · obtain ⟨Q0, Q1, hQ, hQ0, hQ1⟩ := first
      refine ⟨Q0, Q1 ++ [n], by simp [hQ], hQ0, fun q hq => ?_⟩
      rcases List.mem_append.mp hq with h | h
      · exact hQ1 q h
      · simp only [List.mem_singleton] at h; rw [h]; exact hlo
    · intro X hX q hq
      rcases List.mem_append.mp hq with h | h
      · exact least X hX q h
      · simp only [List.mem_singleton] at h
        subst h
        by_cases hs0 : sd q = 0
        · exact hX.2.1 q hn hs0 m hmA (least X hX m hmq)
        · refine hX.2.2 q hn hs0 (List.ne_nil_of_mem hmA) fun x hx => least X hX x ?_
          rcases hall (by rcases hc.2 with h | h; · exact absurd h hs0
                          · exact h) x hx with h | h
          · rw [pre]; simp [h]
          · rw [h]; exact hmq
    · intro p hp hs0 hne hl
      by_cases hpn : p = n
      · subst hpn; simp
      · simp only [upd_ne _ _ hpn] at hl
        exact List.mem_append_left _ (c1 p hp hs0 hne hl)
    · intro p hp hs0 q hq hqD
      exact List.mem_append_left _ (c0 p hp hs0 q hq hqD)
    · intro p hp hs0
      rcases List.mem_append.mp hp with h | h
      · exact List.mem_append_left _ (c0' p h hs0)
      · exact List.mem_append_right _ h
  · have hst : stepN sd m s n = ⟨s.vals, upd s.left n (s.left n - 1), s.queue⟩ := by unfold stepN; rw [if_neg hc]
    rw [hst]
    refine ⟨⟨nd, lt, vq, vnn, lost, par, first, least, ?_⟩, ⟨T, pre⟩, hleft, c0, ?_⟩
    · intro p hp hs0 hne hl
      by_cases hpn : p = n
      · subst hpn
        simp only [upd_self] at hl
        exact (vq p hp).mp fun hv => hc ⟨hv, .inr hl⟩
      · simp only [upd_ne _ _ hpn] at hl
        exact c1 p hp hs0 hne hl
    · intro p hp hs0
      rcases List.mem_append.mp hp with h | h
      · exact c0' p h hs0
      · simp only [List.mem_singleton] at h
        subst h
        exact (vq p hn).mp fun hv => hc ⟨hv, .inl hs0⟩

theorem MJ_fold (hsides : ∀ p, p < N → ∀ q ∈ A p, (sd p = 0 ↔ sd q ≠ 0)) (hstay : ∀ p, p < N → sd p ≠ 0 → lo p = false → ∃ q ∈ A p, lo q = false)
    {m : Nat} {D : List Nat} : ∀ (xs used : List Nat) (s : PS), MJ N A sd lo m D used s → (∀ p, (used ++ xs).count p = if p < N then (A p).count m else 0) → MJ N A sd lo m D (used ++ xs) (xs.foldl (stepN sd m) s) := by
  intro xs
  induction xs with
  | nil => intro used s h _; simpa using h
  | cons x r ih =>
    intro used s h hc
    have hx := hc x
    have hx1 : (used ++ x :: r).count x = (used ++ [x]).count x + r.count x := by simp [List.count_append]; omega
    have hxN : x < N := by
      by_cases h : x < N
      · exact h
      · rw [if_neg h] at hx
        have : 0 < (used ++ [x]).count x := List.count_pos_iff.mpr (by simp)
        omega
    rw [if_pos hxN] at hx
    have := ih (used ++ [x]) (stepN sd m s x) (MJ_step hsides hstay h hxN (by omega)) (by intro p; rw [← hc p]; simp)
    simpa using this

theorem MI_step (hsides : ∀ p, p < N → ∀ q ∈ A p, (sd p = 0 ↔ sd q ≠ 0)) (hstay : ∀ p, p < N → sd p ≠ 0 → lo p = false → ∃ q ∈ A p, lo q = false)
    (a : Nat) (s : PS) (m : Nat) (h : MI N A sd lo a s) (hm : s.queue[a]? = some m) : MI N A sd lo (a + 1) ((befO A N m).foldl (stepN sd m) s) := by
  have hlt : a < s.queue.length := (List.getElem?_eq_some_iff.mp hm).1
  have hgm : s.queue[a] = m := (List.getElem?_eq_some_iff.mp hm).2
  have hpre : s.queue = s.queue.take a ++ m :: s.queue.drop (a + 1) := by
    rw [← hgm, ← List.drop_eq_getElem_cons hlt, List.take_append_drop]
  have hJ : MJ N A sd lo m (s.queue.take a) [] s := ⟨h.base, ⟨_, hpre⟩, by intro p hp; rw [h.left p hp]; simp, h.c0, by simp⟩
  have hF := MJ_fold hsides hstay (befO A N m) [] s hJ (by intro p; rw [List.nil_append]; exact befO_count A N m p)
  rw [List.nil_append] at hF
  obtain ⟨base, ⟨T, pre⟩, left, c0, c0'⟩ := hF
  have hDl : (s.queue.take a).length = a := by rw [List.length_take]; omega
  have htk : ((befO A N m).foldl (stepN sd m) s).queue.take (a + 1) = s.queue.take a ++ [m] := by
    rw [pre, List.take_append, hDl]
    have e1 : a + 1 - a = 1 := by omega
    rw [e1, List.take_of_length_le (by omega)]
    rfl
  have hmD : m ∉ s.queue.take a := by
    have nd := base.nd
    rw [pre] at nd
    intro hm
    exact (List.nodup_append.mp nd).2.2 m hm m (by simp) rfl
  refine ⟨base, ?_, ?_, ?_⟩
  · rw [pre]; simp [List.length_take]; omega
  · intro p hp
    rw [htk, left p hp, befO_count, if_pos hp, count_split _ m hmD]
    omega
  · intro p hp hs0 q hq hqt
    rw [htk] at hqt
    rcases List.mem_append.mp hqt with h | h
    · exact c0 p hp hs0 q hq h
    · simp only [List.mem_singleton] at h
      subst h
      refine c0' p (List.count_pos_iff.mp ?_) hs0
      rw [befO_count, if_pos hp]
      exact List.count_pos_iff.mpr hq

theorem MI_zero : MI N A sd lo 0 ⟨vals0 lo N, fun p => ((A p).length : Int), (List.range N).filter lo⟩ := by
  refine ⟨⟨?_, ?_, ?_, ?_, ?_, ?_, ?_, ?_, ?_⟩, by simp, ?_, by simp⟩
  · exact List.nodup_range.filter _
  · intro q hq; exact List.mem_range.mp (List.mem_filter.mp hq).1
  · intro p hp
    simp only [vals0, hp, true_and, List.mem_filter, List.mem_range]
    by_cases h : lo p = true <;> simp [h]
  · intro p hp
    have := List.mem_filter.mp hp
    simp only [vals0, List.mem_range.mp this.1, this.2, and_self, if_true]; omega
  · intro p hp h; simp [vals0, hp, h]
  · intro p hp h
    have := (List.mem_filter.mp hp).2
    rw [this] at h; exact Bool.noConfusion h
  · exact ⟨(List.range N).filter lo, [], by simp, fun q hq => (List.mem_filter.mp hq).2, by simp⟩
  · intro X hX q hq
    exact hX.1 q (List.mem_range.mp (List.mem_filter.mp hq).1) (List.mem_filter.mp hq).2
  · intro p hp _ hne hl
    exfalso
    simp only at hl
    exact hne (List.length_eq_zero_iff.mp (by omega))
  · intro p hp
    simp

/-- what solve answers -/
structure Ans (N : Nat) (A : Nat → List Nat) (sd : Nat → Nat) (lo : Nat → Bool) (vals : Nat → Int) : Prop where
  neg : ∀ p, p < N → vals p = -1 ∨ 0 ≤ vals p
  lost : ∀ p, p < N → lo p = true → vals p = 0
  par : ∀ p, p < N → 0 ≤ vals p → lo p = false → vals p % 2 = if sd p = 0 then 1 else 0
  closed : Cl N A sd lo fun p => p < N ∧ 0 ≤ vals p
  least : ∀ X, Cl N A sd lo X → ∀ p, p < N → 0 ≤ vals p → X p

theorem MI_end (hA : ∀ n, n < N → ∀ q ∈ A n, q < N) {s : PS} (h : MI N A sd lo s.queue.length s) : Ans N A sd lo s.vals := by
  obtain ⟨⟨nd, lt, vq, vnn, lost, par, first, least, c1⟩, _, left, c0⟩ := h
  rw [List.take_length] at left c0
  have hq : ∀ p, p < N → 0 ≤ s.vals p → p ∈ s.queue := fun p hp h => (vq p hp).mp (by omega)
  refine ⟨fun p hp => ?_, lost, fun p hp h hl => par p (hq p hp h) hl, ⟨fun p hp hl => ⟨hp, by rw [lost p hp hl]; omega⟩, ?_, ?_⟩, fun X hX p hp h => least X hX p (hq p hp h)⟩
  · by_cases h : s.vals p = -1
    · exact .inl h
    · exact .inr (vnn p ((vq p hp).mp h))
  · intro p hp hs0 q hqA hX
    exact ⟨hp, vnn p (c0 p hp hs0 q hqA (hq q hX.1 hX.2))⟩
  · intro p hp hs0 hne hall
    refine ⟨hp, vnn p (c1 p hp hs0 hne ?_)⟩
    rw [left p hp]
    have : (A p).countP (fun q => !s.queue.contains q) = 0 := by
      rw [List.countP_eq_zero]
      intro q hqA
      have := hq q (hall q hqA).1 (hall q hqA).2
      simpa using this
    omega
end

theorem solve_spec (scr : List Int) (d : Nat) {st : St} {sr ra lr N : Nat} {A : Nat → List Nat} {sd : Nat → Nat} {lo : Nat → Bool} (hNl : N < 200)
    (hra : Rows st ra ((List.range N).map A)) (hA : ∀ n, n < N → ∀ q ∈ A n, q < N) (hAl : ∀ n, n < N → (A n).length ≤ 9)
    (hsr : st[sr]? = some (.lst ((List.range N).map fun p => V.int (sd p)))) (hlr : st[lr]? = some (.lst ((List.range N).map fun p => V.bool (lo p))))
    (hsides : ∀ p, p < N → ∀ q ∈ A p, (sd p = 0 ↔ sd q ≠ 0)) (hstay : ∀ p, p < N → sd p ≠ 0 → lo p = false → ∃ q ∈ A p, lo q = false) :
    ∃ r ext vals, run myFns 2000 scr theTups (d + 1) 10 [.ref sr, .ref ra, .ref lr] st = some (.ref r, st ++ ext) ∧ Ans N A sd lo vals ∧ (st ++ ext)[r]? = some (.lst ((List.range N).map fun p => V.int (vals p))) := by
  obtain ⟨r, ext, s', h1, h2, h3⟩ := solve_run scr d hNl hra hA (fun n hn => Nat.le_trans (hAl n hn) (by omega)) hsr hlr (fun m q hq => by
      have h := List.count_pos_iff.mpr hq
      rw [befO_count] at h
      by_cases hqN : q < N
      · exact hqN
      · rw [if_neg hqN] at h; omega) (fun m => by
      have := befO_len' 9 A N hAl m
      omega) (MI N A sd lo) (fun a s h => ⟨h.ale, nodup_len h.base.nd h.base.lt, h.base.lt⟩) (fun a s m h hm => MI_step hsides hstay a s m h hm) MI_zero
  exact ⟨r, ext, s'.vals, h1, MI_end hA h2, h3⟩
end Mine

-- N13
/-! the finite check -/
namespace Mine
open PySem

noncomputable def kb (files : Nat) : List Nat := if files = 2 then [15, 15, 63, 63, 60, 60] else [27, 63, 54, 219, 511, 438, 216, 504, 432]
noncomputable def adj (files s t : Nat) : Bool := Nat.testBit ((kb files).getD s 0) t
noncomputable def sqOf (files mask : Nat) : List Nat := (List.range (3 * files)).filter fun s => Nat.testBit mask s
noncomputable def rowsOf (files mask : Nat) : List (List Nat) := nearF (adj files) (sqOf files mask)

noncomputable def forceN {β : Type} (n : Nat) (k : Nat → β) : β := match n with | 0 => k 0 | m + 1 => k (m + 1)
noncomputable def forceL {β : Type} : List Nat → (List Nat → β) → β
  | [], k => k []
  | x :: xs, k => forceN x fun x' => forceL xs fun xs' => k (x' :: xs')
noncomputable def forceLL {β : Type} : List (List Nat) → (List (List Nat) → β) → β
  | [], k => k []
  | x :: xs, k => forceL x fun x' => forceLL xs fun xs' => k (x' :: xs')

noncomputable def bitsOf (r : List Nat) : Nat := r.foldl (fun b j => b ||| 2 ^ j) 0
/-- one round: the weak side's places, then the strong side's -/
noncomputable def rowT (rbs : List Nat) (Sc c : Nat) : Nat := bitsOf ((List.range rbs.length).filter fun f => f == c || (rbs.getD f 0 &&& Sc) == rbs.getD f 0)
noncomputable def stepT (rbs S : List Nat) : List Nat := (List.range rbs.length).map fun c => rowT rbs (S.getD c 0) c
noncomputable def stepS (rows : List (List Nat)) (T : List Nat) : List Nat := (List.range rows.length).map fun c => (rows.getD c []).foldl (fun b a => b ||| T.getD a 0) (2 ^ c)
noncomputable def iter (rows : List (List Nat)) (rbs : List Nat) : Nat → List Nat → List Nat
  | 0, S => S
  | k + 1, S => forceL (stepT rbs S) fun T => forceL (stepS rows T) fun S' => iter rows rbs k S'
noncomputable def eqL : List Nat → List Nat → Bool
  | [], [] => true
  | x :: xs, y :: ys => Nat.beq x y && eqL xs ys
  | _, _ => false
noncomputable def allS (p : Nat → Bool) : List Nat → Bool
  | [] => true
  | x :: xs => p x && allS p xs
noncomputable def check (files mask : Nat) : Bool :=
  forceLL (rowsOf files mask) fun rows => forceL (rows.map bitsOf) fun rbs =>
    forceL (iter rows rbs 6 ((List.range rows.length).map fun c => 2 ^ c)) fun S =>
      match foldsF rows rows.length (List.range rows.length) with
      | true => wholeF rows && allS (fun s => Nat.beq s (2 ^ rows.length - 1)) S
      | false => eqL (stepS rows (stepT rbs S)) S && allS (fun s => !Nat.beq s (2 ^ rows.length - 1)) S
end Mine

-- N14
/-! the finite check says what the law needs -/
namespace Mine
open PySem

theorem forceN_eq {β : Type} (n : Nat) (k : Nat → β) : forceN n k = k n := by cases n <;> rfl
theorem forceL_eq {β : Type} (xs : List Nat) : ∀ (k : List Nat → β), forceL xs k = k xs := by
  induction xs with
  | nil => intro k; rfl
  | cons x r ih => intro k; simp only [forceL, forceN_eq, ih]
theorem forceLL_eq {β : Type} (xs : List (List Nat)) : ∀ (k : List (List Nat) → β), forceLL xs k = k xs := by
  induction xs with
  | nil => intro k; rfl
  | cons x r ih => intro k; simp only [forceLL, forceL_eq, ih]
theorem eqL_eq : ∀ (xs ys : List Nat), eqL xs ys = true → xs = ys := by
  intro xs
  induction xs with
  | nil => intro ys h; cases ys with
    | nil => rfl
    | cons => simp [eqL] at h
  | cons x r ih => intro ys h; cases ys with
    | nil => simp [eqL] at h
    | cons y ys =>
      simp only [eqL, Bool.and_eq_true] at h
      rw [Nat.eq_of_beq_eq_true h.1, ih ys h.2]
theorem allS_mem (p : Nat → Bool) : ∀ (xs : List Nat), allS p xs = true → ∀ x ∈ xs, p x = true := by
  intro xs
  induction xs with
  | nil => intro _ x h; simp at h
  | cons y r ih =>
    intro h x hx
    simp only [allS, Bool.and_eq_true] at h
    rcases List.mem_cons.mp hx with h2 | h2
    · rw [h2]; exact h.1
    · exact ih h.2 x h2

theorem foldl_or_bit (r : List Nat) (g : Nat → Nat) (j : Nat) : ∀ b : Nat, (r.foldl (fun b a => b ||| g a) b).testBit j = true ↔ b.testBit j = true ∨ ∃ a ∈ r, (g a).testBit j = true := by
  induction r with
  | nil => intro b; simp
  | cons x r ih =>
    intro b
    rw [List.foldl_cons, ih, Nat.testBit_or, Bool.or_eq_true]
    simp only [List.mem_cons, exists_eq_or_imp, or_assoc]
theorem bitsOf_bit (r : List Nat) (j : Nat) : (bitsOf r).testBit j = true ↔ j ∈ r := by
  unfold bitsOf
  rw [foldl_or_bit r (fun a => 2 ^ a) j 0]
  simp only [Nat.zero_testBit, Bool.false_eq_true, false_or, Nat.testBit_two_pow, decide_eq_true_eq]
  constructor
  · rintro ⟨a, h, rfl⟩; exact h
  · intro h; exact ⟨j, h, rfl⟩
theorem and_eq_bits (a b : Nat) : (a &&& b) = a ↔ ∀ j, a.testBit j = true → b.testBit j = true := by
  constructor
  · intro h j hj
    rw [← h, Nat.testBit_and, Bool.and_eq_true] at hj
    exact hj.2
  · intro h
    apply Nat.eq_of_testBit_eq
    intro j
    rw [Nat.testBit_and]
    cases ha : a.testBit j with
    | false => rfl
    | true => simp [h j ha]

/-! places -/
theorem place_mod {n s c f : Nat} (hf : f < n) : (s * (n * n) + c * n + f) % n = f := by
  have : s * (n * n) + c * n + f = f + n * (s * n + c) := by rw [Nat.mul_add, Nat.mul_comm n (s * n), Nat.mul_assoc, Nat.mul_comm n c]; omega
  rw [this, Nat.add_mul_mod_self_left, Nat.mod_eq_of_lt hf]
theorem place_div {n s c f : Nat} (hf : f < n) : (s * (n * n) + c * n + f) / n = s * n + c := by
  have : s * (n * n) + c * n + f = f + n * (s * n + c) := by rw [Nat.mul_add, Nat.mul_comm n (s * n), Nat.mul_assoc, Nat.mul_comm n c]; omega
  rw [this, Nat.add_mul_div_left _ _ (by omega), Nat.div_eq_of_lt hf]; omega
theorem place_div_mod {n s c f : Nat} (hf : f < n) (hc : c < n) : (s * (n * n) + c * n + f) / n % n = c := by
  rw [place_div hf, Nat.mul_comm, Nat.mul_add_mod, Nat.mod_eq_of_lt hc]
theorem place_side {n s c f : Nat} (hf : f < n) (hc : c < n) : (s * (n * n) + c * n + f) / (n * n) = s := by
  rw [← Nat.div_div_eq_div_mul, place_div hf, Nat.mul_comm, Nat.mul_add_div (by omega), Nat.div_eq_of_lt hc]; omega
theorem place_lt {n s c f : Nat} (hf : f < n) (hc : c < n) (hs : s < 2) : s * (n * n) + c * n + f < n * n + n * n := by
  have h1 : c * n + f < n * n := by
    have : (c + 1) * n ≤ n * n := Nat.mul_le_mul_right n hc
    rw [Nat.add_mul] at this; omega
  have : s * (n * n) ≤ 1 * (n * n) := Nat.mul_le_mul_right _ (by omega)
  omega
theorem place_split {n p : Nat} (hp : p < n * n + n * n) : p / (n * n) < 2 ∧ p / n % n < n ∧ p % n < n ∧ p = p / (n * n) * (n * n) + p / n % n * n + p % n := by
  have hn : 0 < n := by
    rcases Nat.eq_zero_or_pos n with h | h
    · subst h; omega
    · exact h
  have h1 := Nat.div_add_mod p n
  have h2 := Nat.div_add_mod (p / n) n
  rw [Nat.div_div_eq_div_mul] at h2
  refine ⟨?_, Nat.mod_lt _ hn, Nat.mod_lt _ hn, ?_⟩
  · rw [Nat.div_lt_iff_lt_mul (Nat.mul_pos hn hn)]; omega
  · have h3 : n * (n * (p / (n * n)) + p / n % n) + p % n = p := by rw [h2]; exact h1
    rw [Nat.mul_add, ← Nat.mul_assoc, Nat.mul_comm (n * n), Nat.mul_comm n (p / n % n)] at h3
    exact h3.symm

noncomputable def Ap (rows : List (List Nat)) (n s c f : Nat) : List Nat := if s = 0 then ((rows.getD c []).map fun a => a * n + f).map (· + n * n) else ((rows.getD f []).map fun a => c * n + a).map (· + 0)
noncomputable def AA (rows : List (List Nat)) (n p : Nat) : List Nat := Ap rows n (p / (n * n)) (p / n % n) (p % n)
noncomputable def sdL (n p : Nat) : Nat := p / (n * n)
noncomputable def loL (n p : Nat) : Bool := p / n % n == p % n

/-- what near's rows are like -/
structure Good (rows : List (List Nat)) : Prop where
  lt : ∀ x ∈ rows, ∀ y ∈ x, y < rows.length
  nd : ∀ x ∈ rows, x.Nodup
  refl : ∀ c, c < rows.length → c ∈ rows.getD c []

section
variable {rows : List (List Nat)}
theorem Good.row (h : Good rows) {c a : Nat} (hc : c < rows.length) (ha : a ∈ rows.getD c []) : a < rows.length := by
  have : rows.getD c [] = rows[c] := by simp [hc]
  rw [this] at ha
  exact h.lt _ (List.getElem_mem hc) a ha

theorem cl_rules (h : Good rows) {X : Nat → Prop} (hX : Cl (rows.length * rows.length + rows.length * rows.length) (AA rows rows.length) (sdL rows.length) (loL rows.length) X) :
    (∀ s c, s < 2 → c < rows.length → X (s * (rows.length * rows.length) + c * rows.length + c)) ∧
    (∀ c f a, c < rows.length → f < rows.length → a ∈ rows.getD c [] → X (1 * (rows.length * rows.length) + a * rows.length + f) → X (0 * (rows.length * rows.length) + c * rows.length + f)) ∧
    (∀ c f, c < rows.length → f < rows.length → (∀ a ∈ rows.getD f [], X (0 * (rows.length * rows.length) + c * rows.length + a)) → X (1 * (rows.length * rows.length) + c * rows.length + f)) := by
  obtain ⟨h1, h2, h3⟩ := hX
  refine ⟨fun s c hs hc => h1 _ (place_lt hc hc hs) ?_, fun c f a hc hf ha hx => h2 _ (place_lt hf hc (by omega)) ?_ _ ?_ hx, fun c f hc hf hx => h3 _ (place_lt hf hc (by omega)) ?_ ?_ ?_⟩
  · simp only [loL, place_div_mod hc hc, place_mod hc, beq_self_eq_true]
  · simp only [sdL, place_side hf hc]
  · simp only [AA, place_side hf hc, place_div_mod hf hc, place_mod hf, Ap, if_true, List.map_map, List.mem_map]
    exact ⟨a, ha, by simp; omega⟩
  · simp only [sdL, place_side hf hc]; omega
  · simp only [AA, place_side hf hc, place_div_mod hf hc, place_mod hf, Ap, if_neg (show ¬ (1 = 0) by omega)]
    exact List.ne_nil_of_mem (List.mem_map.mpr ⟨_, List.mem_map.mpr ⟨f, h.refl f hf, rfl⟩, rfl⟩)
  · intro q hq
    simp only [AA, place_side hf hc, place_div_mod hf hc, place_mod hf, Ap, if_neg (show ¬ (1 = 0) by omega), List.map_map, List.mem_map] at hq
    obtain ⟨a, ha, rfl⟩ := hq
    have := hx a ha
    simpa using this

theorem stepT_len (rbs S : List Nat) : (stepT rbs S).length = rbs.length := by simp [stepT]
theorem stepS_len (T : List Nat) : (stepS rows T).length = rows.length := by simp [stepS]
theorem rbs_get {f : Nat} (hf : f < rows.length) : (rows.map bitsOf).getD f 0 = bitsOf (rows.getD f []) := by
  simp [hf]
theorem stepT_bit {S : List Nat} {c f : Nat} (hc : c < rows.length) : ((stepT (rows.map bitsOf) S).getD c 0).testBit f = true ↔ f < rows.length ∧ (f = c ∨ ∀ a ∈ rows.getD f [], (S.getD c 0).testBit a = true) := by
  have : (stepT (rows.map bitsOf) S).getD c 0 = rowT (rows.map bitsOf) (S.getD c 0) c := by simp [stepT, hc]
  rw [this, rowT, bitsOf_bit, List.mem_filter, List.mem_range, List.length_map]
  constructor
  · rintro ⟨h1, h2⟩
    refine ⟨h1, ?_⟩
    rw [rbs_get h1] at h2
    simp only [Bool.or_eq_true, beq_iff_eq] at h2
    rcases h2 with h2 | h2
    · exact .inl h2
    · right
      intro a ha
      exact (and_eq_bits _ _).mp h2 a ((bitsOf_bit _ _).mpr ha)
  · rintro ⟨h1, h2⟩
    refine ⟨h1, ?_⟩
    rw [rbs_get h1]
    simp only [Bool.or_eq_true, beq_iff_eq]
    rcases h2 with h2 | h2
    · exact .inl h2
    · right
      exact (and_eq_bits _ _).mpr fun j hj => h2 j ((bitsOf_bit _ _).mp hj)
theorem stepS_bit {T : List Nat} {c f : Nat} (hc : c < rows.length) : ((stepS rows T).getD c 0).testBit f = true ↔ f = c ∨ ∃ a ∈ rows.getD c [], (T.getD a 0).testBit f = true := by
  have : (stepS rows T).getD c 0 = (rows.getD c []).foldl (fun b a => b ||| T.getD a 0) (2 ^ c) := by simp [stepS, hc]
  rw [this, foldl_or_bit _ (fun a => T.getD a 0), Nat.testBit_two_pow, decide_eq_true_eq]
  constructor
  · rintro (h | h)
    · exact .inl h.symm
    · exact .inr h
  · rintro (h | h)
    · exact .inl h.symm
    · exact .inr h

noncomputable def Inside (rows : List (List Nat)) (X : Nat → Prop) (S : List Nat) : Prop := ∀ c f, c < rows.length → (S.getD c 0).testBit f = true → f < rows.length ∧ X (0 * (rows.length * rows.length) + c * rows.length + f)

theorem iter_inside (h : Good rows) {X : Nat → Prop} (hX : Cl (rows.length * rows.length + rows.length * rows.length) (AA rows rows.length) (sdL rows.length) (loL rows.length) X) :
    ∀ (k : Nat) (S : List Nat), Inside rows X S → Inside rows X (iter rows (rows.map bitsOf) k S) := by
  obtain ⟨r1, r2, r3⟩ := cl_rules h hX
  intro k
  induction k with
  | zero => intro S hS; exact hS
  | succ k ih =>
    intro S hS
    simp only [iter, forceL_eq]
    apply ih
    intro c f hc hf
    have hT : ∀ c f, c < rows.length → ((stepT (rows.map bitsOf) S).getD c 0).testBit f = true → f < rows.length ∧ X (1 * (rows.length * rows.length) + c * rows.length + f) := by
      intro c f hc hf
      obtain ⟨h1, h2⟩ := (stepT_bit hc).mp hf
      refine ⟨h1, ?_⟩
      rcases h2 with h2 | h2
      · subst h2; exact r1 1 f (by omega) hc
      · exact r3 c f hc h1 fun a ha => (hS c a hc (h2 a ha)).2
    rcases (stepS_bit hc).mp hf with h1 | ⟨a, ha, h1⟩
    · subst h1; exact ⟨hc, r1 0 f (by omega) hc⟩
    · have := hT a f (h.row hc ha) h1
      exact ⟨this.1, r2 c f a hc this.1 ha this.2⟩
theorem iter_len (rbs : List Nat) : ∀ (k : Nat) (S : List Nat), S.length = rows.length → (iter rows rbs k S).length = rows.length := by
  intro k
  induction k with
  | zero => intro S h; exact h
  | succ k ih =>
    intro S h
    simp only [iter, forceL_eq]
    exact ih _ (stepS_len _)

theorem check_rows (h : Good rows) {vals : Nat → Int} (hv : Ans (rows.length * rows.length + rows.length * rows.length) (AA rows rows.length) (sdL rows.length) (loL rows.length) vals) {S : List Nat}
    (hS : S = iter rows (rows.map bitsOf) 6 ((List.range rows.length).map fun c => 2 ^ c)) :
    (allS (fun s => Nat.beq s (2 ^ rows.length - 1)) S = true → ∀ c f, c < rows.length → f < rows.length → 0 ≤ vals (c * rows.length + f)) ∧
    (eqL (stepS rows (stepT (rows.map bitsOf) S)) S = true → allS (fun s => !Nat.beq s (2 ^ rows.length - 1)) S = true → ∀ c, c < rows.length → ¬ ∀ f, f < rows.length → 0 ≤ vals (c * rows.length + f)) := by
  have hlen : S.length = rows.length := by rw [hS]; exact iter_len _ _ _ (by simp)
  have hmem : ∀ c, c < rows.length → S.getD c 0 ∈ S := by
    intro c hc
    have : S.getD c 0 = S[c]'(by omega) := by simp [hlen, hc]
    rw [this]; exact List.getElem_mem _
  constructor
  · intro hall c f hc hf
    have hin : Inside rows (fun p => p < rows.length * rows.length + rows.length * rows.length ∧ 0 ≤ vals p) S := by
      rw [hS]
      apply iter_inside h hv.closed
      intro c f hc hb
      obtain ⟨r1, _, _⟩ := cl_rules h hv.closed
      have : ((List.range rows.length).map fun c => 2 ^ c).getD c 0 = 2 ^ c := by simp [hc]
      rw [this, Nat.testBit_two_pow, decide_eq_true_eq] at hb
      subst hb
      exact ⟨hc, r1 0 c (by omega) hc⟩
    have hs := Nat.eq_of_beq_eq_true (allS_mem _ _ hall _ (hmem c hc))
    have := (hin c f hc (by rw [hs, Nat.testBit_two_pow_sub_one]; simpa using hf)).2.2
    simpa using this
  · intro heq hno c hc hall
    have heq := eqL_eq _ _ heq
    let T := stepT (rows.map bitsOf) S
    let n := rows.length
    let X : Nat → Prop := fun p => (p / (n * n) = 0 → (S.getD (p / n % n) 0).testBit (p % n) = true) ∧ (p / (n * n) ≠ 0 → (T.getD (p / n % n) 0).testBit (p % n) = true)
    have hX : Cl (n * n + n * n) (AA rows n) (sdL n) (loL n) X := by
      refine ⟨fun p hp hl => ?_, fun p hp hs q hq hXq => ?_, fun p hp hs hne hq => ?_⟩
      · obtain ⟨g1, g2, g3, g4⟩ := place_split hp
        have hl : p / n % n = p % n := by simpa [loL] using hl
        refine ⟨fun _ => ?_, fun _ => ?_⟩
        · rw [hl, ← heq]; exact (stepS_bit g3).mpr (.inl rfl)
        · rw [hl]; exact (stepT_bit g3).mpr ⟨g3, .inl rfl⟩
      · obtain ⟨g1, g2, g3, g4⟩ := place_split hp
        have hs : p / (n * n) = 0 := hs
        refine ⟨fun _ => ?_, fun h => absurd hs h⟩
        simp only [AA, hs, Ap, if_true, List.map_map, List.mem_map] at hq
        obtain ⟨a, ha, rfl⟩ := hq
        have han := h.row g2 ha
        have e : ((fun x => x + n * n) ∘ fun a => a * n + p % n) a = 1 * (n * n) + a * n + p % n := by simp; omega
        rw [e] at hXq
        have h2 := hXq.2 (by rw [place_side g3 han]; omega)
        rw [place_div_mod g3 han, place_mod g3] at h2
        rw [← heq]
        exact (stepS_bit g2).mpr (.inr ⟨a, ha, h2⟩)
      · obtain ⟨g1, g2, g3, g4⟩ := place_split hp
        refine ⟨fun h => absurd h hs, fun _ => (stepT_bit g2).mpr ⟨g3, .inr fun a ha => ?_⟩⟩
        have han := h.row g3 ha
        have hmemq : 0 * (n * n) + p / n % n * n + a ∈ AA rows n p := by
          have hs : ¬ p / (n * n) = 0 := hs
          simp only [AA, Ap, hs, if_false, List.map_map, List.mem_map]
          exact ⟨a, ha, by simp⟩
        have h2 := (hq _ hmemq).1 (by rw [place_side han g2])
        rw [place_div_mod han g2, place_mod han] at h2
        exact h2
    have hfull : S.getD c 0 = 2 ^ n - 1 := by
      apply Nat.eq_of_testBit_eq
      intro f
      rw [Nat.testBit_two_pow_sub_one]
      by_cases hf : f < n
      · have hlt : c * n + f < n * n + n * n := by have := place_lt (s := 0) hf hc (by omega); omega
        have h2 := (hv.least X hX (c * n + f) hlt (hall f hf)).1
        have e : c * n + f = 0 * (n * n) + c * n + f := by omega
        rw [e, place_side hf hc, place_div_mod hf hc, place_mod hf] at h2
        simp only [hf, decide_true]; exact h2 rfl
      · simp only [hf, decide_false]
        cases hb : (S.getD c 0).testBit f with
        | false => rfl
        | true =>
          exfalso
          rw [← heq] at hb
          rcases (stepS_bit hc).mp hb with h1 | ⟨a, ha, h1⟩
          · subst h1; exact hf hc
          · exact hf ((stepT_bit (h.row hc ha)).mp h1).1
    have := allS_mem _ _ hno _ (hmem c hc)
    rw [hfull] at this
    simp only [Bool.not_eq_true'] at this
    have h3 : Nat.beq (2 ^ n - 1) (2 ^ n - 1) = true := Nat.beq_refl _
    rw [h3] at this
    exact Bool.noConfusion this
end

theorem check_law {files mask : Nat} (hg : Good (rowsOf files mask)) (hc : check files mask = true) {vals : Nat → Int}
    (hv : Ans ((rowsOf files mask).length * (rowsOf files mask).length + (rowsOf files mask).length * (rowsOf files mask).length) (AA (rowsOf files mask) (rowsOf files mask).length) (sdL (rowsOf files mask).length) (loL (rowsOf files mask).length) vals) :
    (foldsF (rowsOf files mask) (rowsOf files mask).length (List.range (rowsOf files mask).length) = true → wholeF (rowsOf files mask) = true) ∧
    ∀ c, c < (rowsOf files mask).length → ((∀ f, f < (rowsOf files mask).length → 0 ≤ vals (c * (rowsOf files mask).length + f)) ↔ foldsF (rowsOf files mask) (rowsOf files mask).length (List.range (rowsOf files mask).length) = true) := by
  unfold check at hc
  rw [forceLL_eq, forceL_eq, forceL_eq] at hc
  have hr := check_rows hg hv rfl
  cases hf : foldsF (rowsOf files mask) (rowsOf files mask).length (List.range (rowsOf files mask).length) with
  | true =>
    rw [hf] at hc
    simp only [Bool.and_eq_true] at hc
    exact ⟨fun _ => hc.1, fun c hcl => ⟨fun _ => rfl, fun _ f hfl => hr.1 hc.2 c f hcl hfl⟩⟩
  | false =>
    rw [hf] at hc
    simp only [Bool.and_eq_true] at hc
    exact ⟨fun h => Bool.noConfusion h, fun c hcl => ⟨fun h => absurd h (hr.2 hc.1 hc.2 c hcl), fun h => Bool.noConfusion h⟩⟩
end Mine

-- N15
/-! the finite check, done -/
namespace Mine
open PySem

noncomputable def allB (files : Nat) : Nat → Nat → Bool
  | 0, _ => true
  | k + 1, m => (Nat.beq m 511 || check files m) && allB files k (m + 1)
theorem allB_get (files : Nat) : ∀ (k m : Nat), allB files k m = true → ∀ i, m ≤ i → i < m + k → i ≠ 511 → check files i = true := by
  intro k
  induction k with
  | zero => intro m _ i h1 h2; omega
  | succ k ih =>
    intro m h i h1 h2 h3
    simp only [allB, Bool.and_eq_true, Bool.or_eq_true] at h
    by_cases he : i = m
    · subst he
      rcases h.1 with h4 | h4
      · exact absurd (Nat.eq_of_beq_eq_true h4) h3
      · exact h4
    · exact ih (m + 1) h.2 i (by omega) (by omega) h3
theorem all2 : allB 2 63 1 = true := by decide +kernel
theorem all3a : allB 3 127 1 = true := by decide +kernel
theorem all3b : allB 3 64 128 = true := by decide +kernel
theorem all3c : allB 3 64 192 = true := by decide +kernel
theorem all3d : allB 3 64 256 = true := by decide +kernel
theorem all3e : allB 3 64 320 = true := by decide +kernel
theorem all3f : allB 3 64 384 = true := by decide +kernel
theorem all3g : allB 3 64 448 = true := by decide +kernel
theorem check2 {m : Nat} (h1 : 1 ≤ m) (h2 : m < 64) : check 2 m = true := allB_get 2 63 1 all2 m h1 (by omega) (by omega)
theorem check3 {m : Nat} (h1 : 1 ≤ m) (h2 : m < 511) : check 3 m = true := by
  by_cases g1 : m < 128
  · exact allB_get 3 127 1 all3a m h1 (by omega) (by omega)
  by_cases g2 : m < 192
  · exact allB_get 3 64 128 all3b m (by omega) (by omega) (by omega)
  by_cases g3 : m < 256
  · exact allB_get 3 64 192 all3c m (by omega) (by omega) (by omega)
  by_cases g4 : m < 320
  · exact allB_get 3 64 256 all3d m (by omega) (by omega) (by omega)
  by_cases g5 : m < 384
  · exact allB_get 3 64 320 all3e m (by omega) (by omega) (by omega)
  by_cases g6 : m < 448
  · exact allB_get 3 64 384 all3f m (by omega) (by omega) (by omega)
  · exact allB_get 3 64 448 all3g m (by omega) (by omega) (by omega)

theorem nearF_len (adj : Nat → Nat → Bool) (sq : List Nat) : (nearF adj sq).length = sq.length := by simp [nearF]
theorem nearF_get (adj : Nat → Nat → Bool) (sq : List Nat) {c : Nat} (hc : c < sq.length) : (nearF adj sq).getD c [] = (List.range sq.length).filter fun j => adj (sq.getD c 0) (sq.getD j 0) := by
  simp [nearF, hc]
theorem adj_refl : ∀ s, s < 9 → adj 3 s s = true := by decide
theorem adj_refl2 : ∀ s, s < 6 → adj 2 s s = true := by decide
theorem nearF_mem {adj : Nat → Nat → Bool} {sq : List Nat} {x : List Nat} (h : x ∈ nearF adj sq) : ∃ c, x = (List.range sq.length).filter fun j => adj (sq.getD c 0) (sq.getD j 0) := by
  simp only [nearF, List.mem_map] at h
  obtain ⟨c, _, rfl⟩ := h
  exact ⟨c, rfl⟩
theorem nearF_rowlen {adj : Nat → Nat → Bool} {sq : List Nat} {x : List Nat} (h : x ∈ nearF adj sq) : x.length ≤ sq.length := by
  obtain ⟨c, rfl⟩ := nearF_mem h
  have := List.length_filter_le (fun j => adj (sq.getD c 0) (sq.getD j 0)) (List.range sq.length)
  simpa using this

theorem good_rows {files : Nat} (hf : files = 2 ∨ files = 3) (mask : Nat) : Good (rowsOf files mask) := by
  refine ⟨fun x hx y hy => ?_, fun x hx => ?_, fun c hc => ?_⟩
  · obtain ⟨c, rfl⟩ := nearF_mem hx
    rw [rowsOf, nearF_len]
    exact List.mem_range.mp (List.mem_filter.mp hy).1
  · obtain ⟨c, rfl⟩ := nearF_mem hx
    exact List.nodup_range.filter _
  · rw [rowsOf, nearF_len] at hc
    rw [rowsOf, nearF_get _ _ hc, List.mem_filter, List.mem_range]
    refine ⟨hc, ?_⟩
    have hm : (sqOf files mask).getD c 0 ∈ sqOf files mask := by
      have : (sqOf files mask).getD c 0 = (sqOf files mask)[c] := by simp [hc]
      rw [this]; exact List.getElem_mem _
    have hlt := List.mem_range.mp (List.mem_filter.mp hm).1
    rcases hf with rfl | rfl
    · exact adj_refl2 _ (by omega)
    · exact adj_refl _ (by omega)
theorem sq_len (files mask : Nat) : (sqOf files mask).length ≤ 3 * files := by
  have := List.length_filter_le (fun s => Nat.testBit mask s) (List.range (3 * files))
  simpa [sqOf] using this
end Mine

-- N16
/-! law: the lists of places -/
namespace Mine
open PySem

noncomputable abbrev frL (files mask : Int) (cl gr nr n b : Nat) (x10 x11 x12 x13 x14 x15 x16 x17 : V) : List V := [.scr, .ref cl, .int files, .int mask, .ref gr, .ref nr, .int (n : Int), .ref b, .ref (b + 1), .ref (b + 2), x10, x11, x12, x13, x14, x15, x16, x17]

structure BS (st : St) (rows : List (List Nat)) (n k : Nat) (st1 : St) : Prop where
  low : Low st.length st st1
  s : st1[st.length]? = some (.lst ((List.range k).map fun p => V.int (sdL n p : Nat)))
  a : ∃ ks : List Nat, st1[st.length + 1]? = some (.lst (ks.map V.ref)) ∧ ks.length = k ∧ ∀ i, i < k → ∃ kk, ks[i]? = some kk ∧ st.length + 2 < kk ∧ st1[kk]? = some (.lst (natL (AA rows n i)))
  l : st1[st.length + 2]? = some (.lst ((List.range k).map fun p => V.bool (loL n p)))
  t : st1[st.length + 4]? = some (.tup [.int 0, .int 1])
theorem BS.ext {st st1 : St} {rows : List (List Nat)} {n k : Nat} (h : BS st rows n k st1) (e : St) : BS st rows n k (st1 ++ e) := by
  obtain ⟨h1, h2, ⟨ks, h3, h4, h5⟩, h6, h7⟩ := h
  refine ⟨h1.ext e, app_get h2, ⟨ks, app_get h3, h4, fun i hi => ?_⟩, app_get h6, app_get h7⟩
  obtain ⟨kk, g1, g2, g3⟩ := h5 i hi
  exact ⟨kk, g1, g2, app_get g3⟩

noncomputable def goalsE : ME := .ite (.cmp (.Eq) (.var 10) (.glob 0)) (.comp 17 (.sub (.var 5) (.var 11)) (.bool true) (.bin (.Add) (.bin (.Mult) (.var 17) (.var 6)) (.var 12))) (.comp 17 (.sub (.var 5) (.var 12)) (.bool true) (.bin (.Add) (.bin (.Mult) (.var 11) (.var 6)) (.var 17)))
noncomputable def afterE : ME := .comp 17 (.var 13) (.bool true) (.bin (.Add) (.var 17) (.ite (.cmp (.Eq) (.var 10) (.glob 0)) (.bin (.Mult) (.var 6) (.var 6)) (.int 0)))
noncomputable def placeBody : List MS := [.expr (.append (.var 7) (.var 10)), .set 13 goalsE, .expr (.append (.var 8) afterE), .expr (.append (.var 9) (.cmp (.Eq) (.var 11) (.var 12)))]

noncomputable def Gp (rows : List (List Nat)) (n s c f : Nat) : List Nat := if s = 0 then (rows.getD c []).map fun a => a * n + f else (rows.getD f []).map fun a => c * n + a

theorem filter_tt {α : Type} (xs : List α) : xs.filter (fun _ => true) = xs := by simp

theorem mulOk (a n : Nat) (ha : a < 1000) (hn : n < 1000) : (((a : Int).natAbs < 2 ^ 60 ∧ (n : Int).natAbs < 2 ^ 60)) := by
  constructor
  · show a < 2 ^ 60; omega
  · show n < 2 ^ 60; omega

theorem goals_ev (c : Cfg) (hN : c.N = 2000) {st : St} {files mask : Int} {cl gr nr n b cc f s : Nat} {rows : List (List Nat)} {x13 x14 x15 x16 x17 : V} (hs : s = 0 ∨ s = 1)
    (hr : Rows st nr rows) (hn : n = rows.length) (hc : cc < n) (hf : f < n) (hn9 : n < 100) (hlen : ∀ x ∈ rows, x.length < 100) (hlt : ∀ x ∈ rows, ∀ y ∈ x, y < rows.length) :
    ev c goalsE (frL files mask cl gr nr n b (.int (s : Nat)) (.int (cc : Nat)) (.int (f : Nat)) x13 x14 x15 x16 x17) st = some (.ref st.length, st ++ [O.lst (natL (Gp rows n s cc f))]) := by
  have hget : ∀ i, i < rows.length → rows.getD i [] = rows[i]! := by intro i hi; simp [hi]
  have hml : ∀ i, i < rows.length → rows.getD i [] ∈ rows := by
    intro i hi
    have : rows.getD i [] = rows[i] := by simp [hi]
    rw [this]; exact List.getElem_mem hi
  rcases hs with rfl | rfl
  · obtain ⟨kk, hk1, hk2⟩ := hr.get (i := cc) (by omega)
    have hcomp := ev_comp_list c (slot := 17) (iter := .sub (.var 5) (.var 11)) (cond := .bool true) (elt := .bin (.Add) (.bin (.Mult) (.var 17) (.var 6)) (.var 12)) (fr := frL files mask cl gr nr n b (.int (0 : Nat)) (.int (cc : Nat)) (.int (f : Nat)) x13 x14 x15 x16 x17) (st := st) (st1 := st) (j := kk) (xs := rows.getD cc []) (p := fun _ => true) (f := fun a => V.int ((a * n + f : Nat) : Int)) (by have := hlen _ (hml cc (by omega)); omega) (by have := hlen _ (hml cc (by omega)); unfold lim; omega)
      (by simp only [evq_fail, evq_int, evq_bool, evq_none, evq_var, evq_glob, evq_gtup, evq_bin, evq_un, evq_cmp, evq_ite, evq_notB, evq_andB, evq_orB, evq_truthy, evq_andV, evq_orV, evq_lst, evq_tup, evq_comp, evq_len, evq_range1, evq_range3, evq_listOf, evq_min, evq_intOf, evq_call, evq_new, evq_append, evq_extend, evq_attr, evq_sub, evq_slice, getV, List.getElem?_cons_zero, List.getElem?_cons_succ, Option.map_some, Option.bind_some, hk1]) hk2
      (fun a ha acc => by simp only [evq_fail, evq_int, evq_bool, evq_none, evq_var, evq_glob, evq_gtup, evq_bin, evq_un, evq_cmp, evq_ite, evq_notB, evq_andB, evq_orB, evq_truthy, evq_andV, evq_orV, evq_lst, evq_tup, evq_comp, evq_len, evq_range1, evq_range3, evq_listOf, evq_min, evq_intOf, evq_call, evq_new, evq_append, evq_extend, evq_attr, evq_sub, evq_slice])
      (fun a ha _ acc => by
        have han : a < rows.length := hlt _ (hml cc (by omega)) a ha
        simp only [evq_fail, evq_int, evq_bool, evq_none, evq_var, evq_glob, evq_gtup, evq_bin, evq_un, evq_cmp, evq_ite, evq_notB, evq_andB, evq_orB, evq_truthy, evq_andV, evq_orV, evq_lst, evq_tup, evq_comp, evq_len, evq_range1, evq_range3, evq_listOf, evq_min, evq_intOf, evq_call, evq_new, evq_append, evq_extend, evq_attr, evq_sub, evq_slice, getV, List.getElem?_cons_zero, List.getElem?_cons_succ, Option.map_some, Option.bind_some, List.set_cons_zero, List.set_cons_succ, binq_0, binq_1, binq_2, binq_3, binq_4, binq_5, binq_6, binq_7, binq_8, binq_9, binq_10, binq_11, if_pos (mulOk a n (by omega) (by omega)), Int.natCast_add, Int.natCast_mul])
    have e : ev c goalsE (frL files mask cl gr nr n b (.int (0 : Nat)) (.int (cc : Nat)) (.int (f : Nat)) x13 x14 x15 x16 x17) st = ev c (.comp 17 (.sub (.var 5) (.var 11)) (.bool true) (.bin (.Add) (.bin (.Mult) (.var 17) (.var 6)) (.var 12))) (frL files mask cl gr nr n b (.int (0 : Nat)) (.int (cc : Nat)) (.int (f : Nat)) x13 x14 x15 x16 x17) st := by
      unfold goalsE; rw [ev]; rfl
    rw [e, hcomp, filter_tt]
    simp [Gp]
  · obtain ⟨kk, hk1, hk2⟩ := hr.get (i := f) (by omega)
    have hcomp := ev_comp_list c (slot := 17) (iter := .sub (.var 5) (.var 12)) (cond := .bool true) (elt := .bin (.Add) (.bin (.Mult) (.var 11) (.var 6)) (.var 17)) (fr := frL files mask cl gr nr n b (.int (1 : Nat)) (.int (cc : Nat)) (.int (f : Nat)) x13 x14 x15 x16 x17) (st := st) (st1 := st) (j := kk) (xs := rows.getD f []) (p := fun _ => true) (f := fun a => V.int ((cc * n + a : Nat) : Int)) (by have := hlen _ (hml f (by omega)); omega) (by have := hlen _ (hml f (by omega)); unfold lim; omega)
      (by simp only [evq_fail, evq_int, evq_bool, evq_none, evq_var, evq_glob, evq_gtup, evq_bin, evq_un, evq_cmp, evq_ite, evq_notB, evq_andB, evq_orB, evq_truthy, evq_andV, evq_orV, evq_lst, evq_tup, evq_comp, evq_len, evq_range1, evq_range3, evq_listOf, evq_min, evq_intOf, evq_call, evq_new, evq_append, evq_extend, evq_attr, evq_sub, evq_slice, getV, List.getElem?_cons_zero, List.getElem?_cons_succ, Option.map_some, Option.bind_some, hk1]) hk2
      (fun a ha acc => by simp only [evq_fail, evq_int, evq_bool, evq_none, evq_var, evq_glob, evq_gtup, evq_bin, evq_un, evq_cmp, evq_ite, evq_notB, evq_andB, evq_orB, evq_truthy, evq_andV, evq_orV, evq_lst, evq_tup, evq_comp, evq_len, evq_range1, evq_range3, evq_listOf, evq_min, evq_intOf, evq_call, evq_new, evq_append, evq_extend, evq_attr, evq_sub, evq_slice])
      (fun a ha _ acc => by
        have han : a < rows.length := hlt _ (hml f (by omega)) a ha
        simp only [evq_fail, evq_int, evq_bool, evq_none, evq_var, evq_glob, evq_gtup, evq_bin, evq_un, evq_cmp, evq_ite, evq_notB, evq_andB, evq_orB, evq_truthy, evq_andV, evq_orV, evq_lst, evq_tup, evq_comp, evq_len, evq_range1, evq_range3, evq_listOf, evq_min, evq_intOf, evq_call, evq_new, evq_append, evq_extend, evq_attr, evq_sub, evq_slice, getV, List.getElem?_cons_zero, List.getElem?_cons_succ, Option.map_some, Option.bind_some, List.set_cons_zero, List.set_cons_succ, binq_0, binq_1, binq_2, binq_3, binq_4, binq_5, binq_6, binq_7, binq_8, binq_9, binq_10, binq_11, if_pos (mulOk cc n (by omega) (by omega)), Int.natCast_add, Int.natCast_mul])
    have e : ev c goalsE (frL files mask cl gr nr n b (.int (1 : Nat)) (.int (cc : Nat)) (.int (f : Nat)) x13 x14 x15 x16 x17) st = ev c (.comp 17 (.sub (.var 5) (.var 12)) (.bool true) (.bin (.Add) (.bin (.Mult) (.var 11) (.var 6)) (.var 17))) (frL files mask cl gr nr n b (.int (1 : Nat)) (.int (cc : Nat)) (.int (f : Nat)) x13 x14 x15 x16 x17) st := by
      unfold goalsE; rw [ev]; rfl
    rw [e, hcomp, filter_tt]
    simp [Gp]

theorem after_ev (c : Cfg) (hN : c.N = 2000) {st : St} {files mask : Int} {cl gr nr n b s j : Nat} {xs : List Nat} {x11 x12 x14 x15 x16 x17 : V} (hs : s = 0 ∨ s = 1)
    (hj : st[j]? = some (.lst (natL xs))) (hn9 : n < 100) (hlen : xs.length < 100) :
    ev c afterE (frL files mask cl gr nr n b (.int (s : Nat)) x11 x12 (.ref j) x14 x15 x16 x17) st = some (.ref st.length, st ++ [O.lst (natL (if s = 0 then xs.map (· + n * n) else xs.map (· + 0)))]) := by
  rcases hs with rfl | rfl
  · have hcomp := ev_comp_list c (slot := 17) (iter := .var 13) (cond := .bool true) (elt := .bin (.Add) (.var 17) (.ite (.cmp (.Eq) (.var 10) (.glob 0)) (.bin (.Mult) (.var 6) (.var 6)) (.int 0))) (fr := frL files mask cl gr nr n b (.int (0 : Nat)) x11 x12 (.ref j) x14 x15 x16 x17) (st := st) (st1 := st) (j := j) (xs := xs) (p := fun _ => true) (f := fun a => V.int ((a + n * n : Nat) : Int)) (by omega) (by unfold lim; omega) rfl hj
      (fun a ha acc => by simp only [evq_fail, evq_int, evq_bool, evq_none, evq_var, evq_glob, evq_gtup, evq_bin, evq_un, evq_cmp, evq_ite, evq_notB, evq_andB, evq_orB, evq_truthy, evq_andV, evq_orV, evq_lst, evq_tup, evq_comp, evq_len, evq_range1, evq_range3, evq_listOf, evq_min, evq_intOf, evq_call, evq_new, evq_append, evq_extend, evq_attr, evq_sub, evq_slice])
      (fun a ha _ acc => by
        have h0 : (((0 : Nat) : Int) == 0) = true := rfl
        simp only [evq_fail, evq_int, evq_bool, evq_none, evq_var, evq_glob, evq_gtup, evq_bin, evq_un, evq_cmp, evq_ite, evq_notB, evq_andB, evq_orB, evq_truthy, evq_andV, evq_orV, evq_lst, evq_tup, evq_comp, evq_len, evq_range1, evq_range3, evq_listOf, evq_min, evq_intOf, evq_call, evq_new, evq_append, evq_extend, evq_attr, evq_sub, evq_slice, getV, List.getElem?_cons_zero, List.getElem?_cons_succ, Option.map_some, Option.bind_some, List.set_cons_zero, List.set_cons_succ, cmpq_0, cmpq_1, cmpq_2, cmpq_3, cmpq_4, cmpq_5, cmpq_6, cmpq_7, cmpq_8, cmpq_9, h0, binq_0, binq_1, binq_2, binq_3, binq_4, binq_5, binq_6, binq_7, binq_8, binq_9, binq_10, binq_11, if_pos (mulOk n n (by omega) (by omega)), Int.natCast_add, Int.natCast_mul])
    unfold afterE
    rw [hcomp, filter_tt]
    simp
  · have hcomp := ev_comp_list c (slot := 17) (iter := .var 13) (cond := .bool true) (elt := .bin (.Add) (.var 17) (.ite (.cmp (.Eq) (.var 10) (.glob 0)) (.bin (.Mult) (.var 6) (.var 6)) (.int 0))) (fr := frL files mask cl gr nr n b (.int (1 : Nat)) x11 x12 (.ref j) x14 x15 x16 x17) (st := st) (st1 := st) (j := j) (xs := xs) (p := fun _ => true) (f := fun a => V.int ((a + 0 : Nat) : Int)) (by omega) (by unfold lim; omega) rfl hj
      (fun a ha acc => by simp only [evq_fail, evq_int, evq_bool, evq_none, evq_var, evq_glob, evq_gtup, evq_bin, evq_un, evq_cmp, evq_ite, evq_notB, evq_andB, evq_orB, evq_truthy, evq_andV, evq_orV, evq_lst, evq_tup, evq_comp, evq_len, evq_range1, evq_range3, evq_listOf, evq_min, evq_intOf, evq_call, evq_new, evq_append, evq_extend, evq_attr, evq_sub, evq_slice])
      (fun a ha _ acc => by
        have h0 : (((1 : Nat) : Int) == 0) = false := rfl
        simp only [evq_fail, evq_int, evq_bool, evq_none, evq_var, evq_glob, evq_gtup, evq_bin, evq_un, evq_cmp, evq_ite, evq_notB, evq_andB, evq_orB, evq_truthy, evq_andV, evq_orV, evq_lst, evq_tup, evq_comp, evq_len, evq_range1, evq_range3, evq_listOf, evq_min, evq_intOf, evq_call, evq_new, evq_append, evq_extend, evq_attr, evq_sub, evq_slice, getV, List.getElem?_cons_zero, List.getElem?_cons_succ, Option.map_some, Option.bind_some, List.set_cons_zero, List.set_cons_succ, cmpq_0, cmpq_1, cmpq_2, cmpq_3, cmpq_4, cmpq_5, cmpq_6, cmpq_7, cmpq_8, cmpq_9, h0, binq_0, binq_1, binq_2, binq_3, binq_4, binq_5, binq_6, binq_7, binq_8, binq_9, binq_10, binq_11, Int.natCast_add]
        rfl)
    unfold afterE
    rw [hcomp, filter_tt]
    simp

theorem place_step (c : Cfg) (hN : c.N = 2000) {st st1 : St} {files mask : Int} {cl gr nr n cc f s : Nat} {rows : List (List Nat)} {x13 x14 x15 x16 x17 : V} (hs : s = 0 ∨ s = 1)
    (hr : Rows st nr rows) (hn : n = rows.length) (hc : cc < n) (hf : f < n) (hn9 : n < 10) (hlen : ∀ x ∈ rows, x.length < 100) (hlt : ∀ x ∈ rows, ∀ y ∈ x, y < rows.length)
    (h : BS st rows n (s * (n * n) + cc * n + f) st1) :
    ∃ y13 st2, exs c placeBody (frL files mask cl gr nr n st.length (.int (s : Nat)) (.int (cc : Nat)) (.int (f : Nat)) x13 x14 x15 x16 x17) st1
      = some (.next, frL files mask cl gr nr n st.length (.int (s : Nat)) (.int (cc : Nat)) (.int (f : Nat)) y13 x14 x15 x16 x17, st2) ∧ BS st rows n (s * (n * n) + cc * n + f + 1) st2 := by
  generalize hk : s * (n * n) + cc * n + f = k at h ⊢
  have hk200 : k < 200 := by
    have := place_lt hf hc (show s < 2 by omega)
    have : n * n ≤ 9 * 9 := Nat.mul_le_mul (by omega) (by omega)
    omega
  obtain ⟨low, hS, ⟨ks, hA1, hA2, hA3⟩, hL, hT⟩ := h
  have hl2 := lt_of_get hL
  have hsd : sdL n k = s := by rw [← hk]; exact place_side hf hc
  have hlo : loL n k = (cc == f) := by rw [← hk, loL, place_div_mod hf hc, place_mod hf]
  have hAA : AA rows n k = if s = 0 then (Gp rows n s cc f).map (· + n * n) else (Gp rows n s cc f).map (· + 0) := by
    rw [← hk, AA, place_side hf hc, place_div_mod hf hc, place_mod hf]
    unfold Ap Gp
    split <;> rfl
  have hGl : (Gp rows n s cc f).length < 100 := by
    have hml : ∀ i, i < rows.length → (rows.getD i []).length < 100 := by
      intro i hi
      have : rows.getD i [] = rows[i] := by simp [hi]
      rw [this]; exact hlen _ (List.getElem_mem hi)
    unfold Gp
    split
    · rw [List.length_map]; exact hml _ (by omega)
    · rw [List.length_map]; exact hml _ (by omega)
  -- the side
  let s1 := st1.set st.length (.lst ((List.range (k + 1)).map fun p => V.int (sdL n p : Nat)))
  have p1 : pushV st1 st.length (.int (s : Nat)) = some s1 := by
    rw [pushV_ok hS (by simp; omega)]
    simp only [List.map_cons, List.map_nil, hsd, s1, List.range_succ, List.map_append]
  have low1 : Low st.length st s1 := low.set (Nat.le_refl _) _
  have eg := goals_ev c hN (files := files) (mask := mask) (cl := cl) (gr := gr) (b := st.length) (x13 := x13) (x14 := x14) (x15 := x15) (x16 := x16) (x17 := x17) hs (low1.rows hr) hn hc hf (by omega) hlen hlt
  let s2 := s1 ++ [O.lst (natL (Gp rows n s cc f))]
  have hg2 : s2[s1.length]? = some (.lst (natL (Gp rows n s cc f))) := by simp [s2]
  have ea := after_ev c hN (files := files) (mask := mask) (cl := cl) (gr := gr) (nr := nr) (b := st.length) (x11 := .int (cc : Nat)) (x12 := .int (f : Nat)) (x14 := x14) (x15 := x15) (x16 := x16) (x17 := x17) hs hg2 (show n < 100 by omega) hGl
  rw [← hAA] at ea
  let s3 := s2 ++ [O.lst (natL (AA rows n k))]
  have hl1 : s1.length = st1.length := by simp [s1]
  have hA1' : s3[st.length + 1]? = some (.lst (ks.map V.ref)) := by
    apply app_get; apply app_get
    rw [List.getElem?_set_ne (by omega)]; exact hA1
  have p2 := pushV_ok (v := .ref s2.length) hA1' (by simp; omega)
  let s4 := s3.set (st.length + 1) (.lst (ks.map V.ref ++ [V.ref s2.length]))
  have hL4 : s4[st.length + 2]? = some (.lst ((List.range k).map fun p => V.bool (loL n p))) := by
    rw [List.getElem?_set_ne (by omega)]
    apply app_get; apply app_get
    rw [List.getElem?_set_ne (by omega)]; exact hL
  have hccf : ((cc : Int) == (f : Int)) = loL n k := by rw [hlo, Bool.eq_iff_iff]; simp; omega
  have p3 : pushV s4 (st.length + 2) (.bool ((cc : Int) == (f : Int))) = some (s4.set (st.length + 2) (.lst ((List.range (k + 1)).map fun p => V.bool (loL n p)))) := by
    rw [pushV_ok hL4 (by simp; omega), hccf]
    simp only [List.map_cons, List.map_nil, List.range_succ, List.map_append]
  refine ⟨.ref s1.length, s4.set (st.length + 2) (.lst ((List.range (k + 1)).map fun p => V.bool (loL n p))), ?_, ?_⟩
  · refine exs_cons (ex_expr (ev_append (k := st.length) rfl hS rfl p1)) (exs_cons (ex_set eg) (exs_cons (fr' := frL files mask cl gr nr n st.length (.int (s : Nat)) (.int (cc : Nat)) (.int (f : Nat)) (.ref s1.length) x14 x15 x16 x17) (st' := s4) (ex_expr (ev_append (k := st.length + 1) (xs := ks.map V.ref) (st1 := s2) rfl ?_ ea p2)) (exs_cons (ex_expr (ev_append (k := st.length + 2) rfl hL4 ?_ p3)) exs_nil)))
    · apply app_get
      rw [List.getElem?_set_ne (by omega)]; exact hA1
    · simp only [evq_fail, evq_int, evq_bool, evq_none, evq_var, evq_glob, evq_gtup, evq_bin, evq_un, evq_cmp, evq_ite, evq_notB, evq_andB, evq_orB, evq_truthy, evq_andV, evq_orV, evq_lst, evq_tup, evq_comp, evq_len, evq_range1, evq_range3, evq_listOf, evq_min, evq_intOf, evq_call, evq_new, evq_append, evq_extend, evq_attr, evq_sub, evq_slice, getV, List.getElem?_cons_zero, List.getElem?_cons_succ, Option.map_some, Option.bind_some, cmpq_0, cmpq_1, cmpq_2, cmpq_3, cmpq_4, cmpq_5, cmpq_6, cmpq_7, cmpq_8, cmpq_9]
  · have hs2l : s2.length = st1.length + 1 := by simp [s2, hl1]
    have hs3l : s3.length = st1.length + 2 := by simp [s3, hs2l]
    refine ⟨?_, ?_, ⟨ks ++ [s2.length], ?_, by simp [hA2], fun i hi => ?_⟩, ?_, ?_⟩
    · exact (((low1.ext _).ext _).set (by omega) _).set (by omega) _
    · rw [List.getElem?_set_ne (by omega), List.getElem?_set_ne (by omega)]
      apply app_get; apply app_get
      rw [List.getElem?_set_self (by omega)]
    · rw [List.getElem?_set_ne (by omega), List.getElem?_set_self (by omega)]
      simp
    · by_cases hik : i < k
      · obtain ⟨kk, g1, g2, g3⟩ := hA3 i hik
        refine ⟨kk, by rw [List.getElem?_append_left (by omega)]; exact g1, g2, ?_⟩
        rw [List.getElem?_set_ne (by omega), List.getElem?_set_ne (by omega)]
        apply app_get; apply app_get
        rw [List.getElem?_set_ne (by omega)]; exact g3
      · have : i = k := by omega
        subst this
        refine ⟨s2.length, by rw [List.getElem?_append_right (by omega)]; simp [hA2], by omega, ?_⟩
        rw [List.getElem?_set_ne (by omega), List.getElem?_set_ne (by omega)]
        simp [s3]
    · rw [List.getElem?_set_self (by simp [s4]; omega)]
    · rw [List.getElem?_set_ne (by omega), List.getElem?_set_ne (by omega)]
      apply app_get; apply app_get
      rw [List.getElem?_set_ne (by omega)]; exact hT
end Mine

-- N17
/-! law: the loops over the places -/
namespace Mine
open PySem

section
variable (c : Cfg) (hN : c.N = 2000) {st st1 : St} {files mask : Int} {cl gr nr n : Nat} {rows : List (List Nat)} {x10 x11 x12 x13 x14 x15 x16 x17 : V}
    (hr : Rows st nr rows) (hn : n = rows.length) (hn9 : n < 10) (hlen : ∀ x ∈ rows, x.length < 100) (hlt : ∀ x ∈ rows, ∀ y ∈ x, y < rows.length)
include hN hr hn hn9 hlen hlt

theorem loop3 {s cc : Nat} (hs : s = 0 ∨ s = 1) (hc : cc < n) (h : BS st rows n (s * (n * n) + cc * n) st1) :
    ∃ y12 y13 st2, ex c (.for_ 12 (.range1 (.var 6)) placeBody) (frL files mask cl gr nr n st.length (.int (s : Nat)) (.int (cc : Nat)) x12 x13 x14 x15 x16 x17) st1
      = some (.next, frL files mask cl gr nr n st.length (.int (s : Nat)) (.int (cc : Nat)) y12 y13 x14 x15 x16 x17, st2) ∧ BS st rows n (s * (n * n) + (cc + 1) * n) st2 := by
  let P : Nat → List V → St → Prop := fun i fr st2 => (∃ y12 y13, fr = frL files mask cl gr nr n st.length (.int (s : Nat)) (.int (cc : Nat)) y12 y13 x14 x15 x16 x17) ∧ BS st rows n (s * (n * n) + cc * n + i) st2
  obtain ⟨fr', st2, h1, ⟨y12, y13, rfl⟩, h2⟩ := for_range (body := fun fr st => exs c placeBody fr st) (slot := 12) (j := st1.length) (m := n) (n := c.N) P (by omega)
    (fun i hi fr st2 h => by
      obtain ⟨⟨y12, y13, rfl⟩, hB⟩ := h
      obtain ⟨z13, st3, g1, g2⟩ := place_step c hN (files := files) (mask := mask) (cl := cl) (gr := gr) (x13 := y13) (x14 := x14) (x15 := x15) (x16 := x16) (x17 := x17) hs hr hn hc hi hn9 hlen hlt hB
      exact ⟨_, st3, g1, ⟨_, _, rfl⟩, g2⟩)
    (frL files mask cl gr nr n st.length (.int (s : Nat)) (.int (cc : Nat)) x12 x13 x14 x15 x16 x17) (st1 ++ [O.rng 0 n 1]) ⟨⟨_, _, rfl⟩, h.ext _⟩
  have hsm : smallI (n : Int) = true := by simp [smallI]; omega
  refine ⟨y12, y13, st2, ex_for (k := st1.length) (o := .rng 0 n 1) (st1 := st1 ++ [O.rng 0 n 1]) ?_ (by simp) h1, ?_⟩
  · simp only [evq_fail, evq_int, evq_bool, evq_none, evq_var, evq_glob, evq_gtup, evq_bin, evq_un, evq_cmp, evq_ite, evq_notB, evq_andB, evq_orB, evq_truthy, evq_andV, evq_orV, evq_lst, evq_tup, evq_comp, evq_len, evq_range1, evq_range3, evq_listOf, evq_min, evq_intOf, evq_call, evq_new, evq_append, evq_extend, evq_attr, evq_sub, evq_slice, getV, List.getElem?_cons_zero, List.getElem?_cons_succ, Option.map_some, Option.bind_some, hsm, if_true]
  · rw [Nat.succ_mul, ← Nat.add_assoc]; exact h2

theorem loop2 {s : Nat} (hs : s = 0 ∨ s = 1) (h : BS st rows n (s * (n * n)) st1) :
    ∃ y11 y12 y13 st2, ex c (.for_ 11 (.range1 (.var 6)) [.for_ 12 (.range1 (.var 6)) placeBody]) (frL files mask cl gr nr n st.length (.int (s : Nat)) x11 x12 x13 x14 x15 x16 x17) st1
      = some (.next, frL files mask cl gr nr n st.length (.int (s : Nat)) y11 y12 y13 x14 x15 x16 x17, st2) ∧ BS st rows n ((s + 1) * (n * n)) st2 := by
  let P : Nat → List V → St → Prop := fun i fr st2 => (∃ y11 y12 y13, fr = frL files mask cl gr nr n st.length (.int (s : Nat)) y11 y12 y13 x14 x15 x16 x17) ∧ BS st rows n (s * (n * n) + i * n) st2
  obtain ⟨fr', st2, h1, ⟨y11, y12, y13, rfl⟩, h2⟩ := for_range (body := fun fr st => exs c [.for_ 12 (.range1 (.var 6)) placeBody] fr st) (slot := 11) (j := st1.length) (m := n) (n := c.N) P (by omega)
    (fun i hi fr st2 h => by
      obtain ⟨⟨y11, y12, y13, rfl⟩, hB⟩ := h
      obtain ⟨z12, z13, st3, g1, g2⟩ := loop3 c hN (files := files) (mask := mask) (cl := cl) (gr := gr) (x12 := y12) (x13 := y13) (x14 := x14) (x15 := x15) (x16 := x16) (x17 := x17) hr hn hn9 hlen hlt hs hi hB
      exact ⟨_, st3, exs_cons g1 exs_nil, ⟨_, _, _, rfl⟩, g2⟩)
    (frL files mask cl gr nr n st.length (.int (s : Nat)) x11 x12 x13 x14 x15 x16 x17) (st1 ++ [O.rng 0 n 1]) ⟨⟨_, _, _, rfl⟩, by have := h.ext [O.rng 0 n 1]; simpa using this⟩
  have hsm : smallI (n : Int) = true := by simp [smallI]; omega
  refine ⟨y11, y12, y13, st2, ex_for (k := st1.length) (o := .rng 0 n 1) (st1 := st1 ++ [O.rng 0 n 1]) ?_ (by simp) h1, ?_⟩
  · simp only [evq_fail, evq_int, evq_bool, evq_none, evq_var, evq_glob, evq_gtup, evq_bin, evq_un, evq_cmp, evq_ite, evq_notB, evq_andB, evq_orB, evq_truthy, evq_andV, evq_orV, evq_lst, evq_tup, evq_comp, evq_len, evq_range1, evq_range3, evq_listOf, evq_min, evq_intOf, evq_call, evq_new, evq_append, evq_extend, evq_attr, evq_sub, evq_slice, getV, List.getElem?_cons_zero, List.getElem?_cons_succ, Option.map_some, Option.bind_some, hsm, if_true]
  · rw [Nat.succ_mul]; exact h2

/-- from the third of the lists on: the tuple of sides lies at st.length + 4 -/
theorem loop1 (h : BS st rows n 0 st1) :
    ∃ y10 y11 y12 y13 st2, forI (fun fr st => exs c [.for_ 11 (.range1 (.var 6)) [.for_ 12 (.range1 (.var 6)) placeBody]] fr st) 10 (st.length + 4) (.tup [.int 0, .int 1]) c.N 0 (frL files mask cl gr nr n st.length x10 x11 x12 x13 x14 x15 x16 x17) st1
      = some (.next, frL files mask cl gr nr n st.length y10 y11 y12 y13 x14 x15 x16 x17, st2) ∧ BS st rows n (2 * (n * n)) st2 := by
  let P : Nat → List V → St → Prop := fun i fr st2 => (∃ y10 y11 y12 y13, fr = frL files mask cl gr nr n st.length y10 y11 y12 y13 x14 x15 x16 x17) ∧ BS st rows n (i * (n * n)) st2
  obtain ⟨fr', st2, h1, ⟨y10, y11, y12, y13, rfl⟩, h2⟩ := for_vals (body := fun fr st => exs c [.for_ 11 (.range1 (.var 6)) [.for_ 12 (.range1 (.var 6)) placeBody]] fr st) (slot := 10) (j := st.length + 4) (o := .tup [.int 0, .int 1]) (xs := [.int 0, .int 1]) (n := c.N) P (by simp; omega)
    (fun i fr s h => by simp only [nextItem, h.2.t])
    (fun i hi fr st2 h => by
      obtain ⟨⟨y10, y11, y12, y13, rfl⟩, hB⟩ := h
      have hi2 : i = 0 ∨ i = 1 := by simp at hi; omega
      have hx : ([V.int 0, V.int 1] : List V)[i] = .int (i : Nat) := by
        rcases hi2 with rfl | rfl <;> rfl
      rw [hx]
      obtain ⟨z11, z12, z13, st3, g1, g2⟩ := loop2 c hN (files := files) (mask := mask) (cl := cl) (gr := gr) (x11 := y11) (x12 := y12) (x13 := y13) (x14 := x14) (x15 := x15) (x16 := x16) (x17 := x17) hr hn hn9 hlen hlt hi2 hB
      exact ⟨_, st3, exs_cons g1 exs_nil, ⟨_, _, _, _, rfl⟩, g2⟩)
    (frL files mask cl gr nr n st.length x10 x11 x12 x13 x14 x15 x16 x17) st1 ⟨⟨_, _, _, _, rfl⟩, by simpa using h⟩
  exact ⟨y10, y11, y12, y13, st2, h1, h2⟩
end
end Mine

-- N18
/-! law: its checks -/
namespace Mine
open PySem

theorem minL_nn : ∀ (xs : List Int), xs ≠ [] → ∃ m, minL (xs.map V.int) = some m ∧ (0 ≤ m ↔ ∀ x ∈ xs, 0 ≤ x) := by
  intro xs
  induction xs with
  | nil => intro h; exact absurd rfl h
  | cons a r ih =>
    intro _
    cases r with
    | nil => exact ⟨a, rfl, by simp⟩
    | cons b t =>
      obtain ⟨m, h1, h2⟩ := ih (by simp)
      refine ⟨if m < a then m else a, ?_, ?_⟩
      · simp only [List.map_cons] at h1 ⊢
        rw [minL, h1]
        intro h; simp at h
      · rw [List.forall_mem_cons, ← h2]
        split <;> omega

theorem slice_vals (v : Nat → V) {N n c : Nat} (h : c * n + n ≤ N) : (((List.range N).map v).take (c * n + n)).drop (c * n) = (List.range n).map fun f => v (c * n + f) := by
  apply List.ext_getElem?
  intro i
  rw [List.getElem?_drop, List.getElem?_take]
  by_cases hi : i < n
  · rw [if_pos (by omega)]
    simp only [List.getElem?_map]
    rw [List.getElem?_range (by omega), List.getElem?_range hi]
    rfl
  · rw [if_neg (by omega), List.getElem?_eq_none (by simp; omega)]

noncomputable def rowB : List MS := [.set 15 (.slice (.var 14) (.bin (.Mult) (.var 11) (.var 6)) (.bin (.Add) (.bin (.Mult) (.var 11) (.var 6)) (.var 6))), .ite (.cmp (.NotEq) (.cmp (.GtE) (.min (.var 15)) (.int 0)) (.call 11 [.var 5])) [.ret (.bool false)] []]
noncomputable def placeCk : List MS := [.setTup [11, 12] (.tup [.bin (.Mod) (.bin (.FloorDiv) (.var 16) (.var 6)) (.var 6), .bin (.Mod) (.var 16) (.var 6)]), .ite (.orB (.andB (.cmp (.Eq) (.var 11) (.var 12)) (.cmp (.NotEq) (.sub (.var 14) (.var 16)) (.int 0))) (.andB (.cmp (.NotEq) (.var 11) (.var 12)) (.andB (.cmp (.GtE) (.sub (.var 14) (.var 16)) (.int 0)) (.cmp (.NotEq) (.bin (.Mod) (.sub (.var 14) (.var 16)) (.int 2)) (.intOf (.cmp (.Lt) (.var 16) (.bin (.Mult) (.var 6) (.var 6)))))))) [.ret (.bool false)] []]
noncomputable def tailB : List MS := [.set 14 (.call 10 [.var 7, .var 8, .var 9]), .ite (.andB (.truthy (.call 11 [.var 5])) (.notB (.truthy (.call 12 [.var 5])))) [.ret (.bool false)] [], .for_ 11 (.range1 (.var 6)) rowB, .for_ 16 (.range1 (.len (.var 14))) placeCk, .ret (.bool true)]

theorem row_step (scr : List Int) {st : St} {files mask : Int} {cl gr nr n b tr cc : Nat} {rows : List (List Nat)} {vals : Nat → Int} {x10 x12 x13 x15 x16 x17 : V}
    (hr : Rows st nr rows) (hn : n = rows.length) (hn9 : n < 10) (hlen : ∀ x ∈ rows, x.length < 100)
    (ht : st[tr]? = some (.lst ((List.range (n * n + n * n)).map fun p => V.int (vals p)))) (hc : cc < n)
    (hF : (∀ f, f < n → 0 ≤ vals (cc * n + f)) ↔ foldsF rows rows.length (List.range rows.length) = true) :
    ∃ ext, exs ⟨2000, run myFns 2000 scr theTups 5, scr, theTups⟩ rowB (frL files mask cl gr nr n b x10 (.int (cc : Nat)) x12 x13 (.ref tr) x15 x16 x17) st
      = some (.next, frL files mask cl gr nr n b x10 (.int (cc : Nat)) x12 x13 (.ref tr) (.ref st.length) x16 x17, st ++ ext) := by
  have hle : cc * n + n ≤ n * n + n * n := by
    have : (cc + 1) * n ≤ n * n := Nat.mul_le_mul_right n hc
    rw [Nat.succ_mul] at this; omega
  have hsl : sliceL ((List.range (n * n + n * n)).map fun p => V.int (vals p)) (.int ((cc : Int) * (n : Int))) (.int ((cc : Int) * (n : Int) + (n : Int))) = some (((List.range n).map fun f => vals (cc * n + f)).map V.int) := by
    have e1 : (cc : Int) * (n : Int) = ((cc * n : Nat) : Int) := (Int.natCast_mul ..).symm
    have e2 : ((cc * n : Nat) : Int) + (n : Int) = ((cc * n + n : Nat) : Int) := (Int.natCast_add ..).symm
    unfold sliceL
    simp only [e1, e2, Int.natCast_nonneg, and_self, if_true, Int.toNat_natCast]
    rw [slice_vals (fun p => V.int (vals p)) hle, List.map_map]
    rfl
  have e15 : ex ⟨2000, run myFns 2000 scr theTups 5, scr, theTups⟩ (.set 15 (.slice (.var 14) (.bin (.Mult) (.var 11) (.var 6)) (.bin (.Add) (.bin (.Mult) (.var 11) (.var 6)) (.var 6)))) (frL files mask cl gr nr n b x10 (.int (cc : Nat)) x12 x13 (.ref tr) x15 x16 x17) st
      = some (.next, frL files mask cl gr nr n b x10 (.int (cc : Nat)) x12 x13 (.ref tr) (.ref st.length) x16 x17, st ++ [O.lst (((List.range n).map fun f => vals (cc * n + f)).map V.int)]) := by
    simp only [exq_fail, exq_set, exq_setTup, exq_setTupR, exq_setItem, exq_setAttr, exq_augVar, exq_augItem, exq_expr, exq_ret, exq_ite, exq_for_, exq_whl, evq_fail, evq_int, evq_bool, evq_none, evq_var, evq_glob, evq_gtup, evq_bin, evq_un, evq_cmp, evq_ite, evq_notB, evq_andB, evq_orB, evq_truthy, evq_andV, evq_orV, evq_lst, evq_tup, evq_comp, evq_len, evq_range1, evq_range3, evq_listOf, evq_min, evq_intOf, evq_call, evq_new, evq_append, evq_extend, evq_attr, evq_sub, evq_slice, getV, List.getElem?_cons_zero, List.getElem?_cons_succ, Option.map_some, Option.bind_some, List.set_cons_zero, List.set_cons_succ, binq_0, binq_1, binq_2, binq_3, binq_4, binq_5, binq_6, binq_7, binq_8, binq_9, binq_10, binq_11, if_pos (mulOk cc n (by omega) (by omega)), ht, hsl]
  obtain ⟨m, hm1, hm2⟩ := minL_nn ((List.range n).map fun f => vals (cc * n + f)) (by
    intro h
    have := congrArg List.length h
    simp at this; omega)
  have hm3 : decide (m ≥ 0) = foldsF rows rows.length (List.range rows.length) := by
    rw [Bool.eq_iff_iff, decide_eq_true_eq, ← hF]
    show 0 ≤ m ↔ _
    rw [hm2]
    simp
  obtain ⟨ext, hfold⟩ := folds_run scr 4 (hr.append [O.lst (((List.range n).map fun f => vals (cc * n + f)).map V.int)]) (by omega) hlen
  refine ⟨[O.lst (((List.range n).map fun f => vals (cc * n + f)).map V.int)] ++ ext, exs_cons e15 (exs_cons (ex_ite (x := false) (st1 := st ++ ([O.lst (((List.range n).map fun f => vals (cc * n + f)).map V.int)] ++ ext)) ?_ ?_) exs_nil)⟩
  · have g1 : (st ++ [O.lst (((List.range n).map fun f => vals (cc * n + f)).map V.int)])[st.length]? = some (O.lst (((List.range n).map fun f => vals (cc * n + f)).map V.int)) := List.getElem?_concat_length ..
    simp only [evq_fail, evq_int, evq_bool, evq_none, evq_var, evq_glob, evq_gtup, evq_bin, evq_un, evq_cmp, evq_ite, evq_notB, evq_andB, evq_orB, evq_truthy, evq_andV, evq_orV, evq_lst, evq_tup, evq_comp, evq_len, evq_range1, evq_range3, evq_listOf, evq_min, evq_intOf, evq_call, evq_new, evq_append, evq_extend, evq_attr, evq_sub, evq_slice, evlq_nil, evlq_cons, getV, List.getElem?_cons_zero, List.getElem?_cons_succ, Option.map_some, Option.bind_some, g1, hm1, cmpq_0, cmpq_1, cmpq_2, cmpq_3, cmpq_4, cmpq_5, cmpq_6, cmpq_7, cmpq_8, cmpq_9, hm3, hfold, bne_self_eq_false, List.append_assoc]
  · simp only [Bool.false_eq_true, if_false, exsq_nil, exsq_cons]

theorem place_ck (c : Cfg) {st : St} {files mask : Int} {cl gr nr n b tr p : Nat} {vals : Nat → Int} {x10 x11 x12 x13 x15 x17 : V}
    (hn9 : n < 10) (ht : st[tr]? = some (.lst ((List.range (n * n + n * n)).map fun p => V.int (vals p)))) (hp : p < n * n + n * n)
    (hlost : loL n p = true → vals p = 0) (hpar : 0 ≤ vals p → loL n p = false → vals p % 2 = if sdL n p = 0 then 1 else 0) :
    ∃ y11 y12 ext, exs c placeCk (frL files mask cl gr nr n b x10 x11 x12 x13 (.ref tr) x15 (.int (p : Nat)) x17) st
      = some (.next, frL files mask cl gr nr n b x10 y11 y12 x13 (.ref tr) x15 (.int (p : Nat)) x17, st ++ ext) := by
  have hn0 : 0 < n := by
    rcases Nat.eq_zero_or_pos n with h | h
    · subst h; omega
    · exact h
  have hn1 : ((n : Int) ≠ 0 ∧ (n : Int).natAbs < 1000000000) := by
    constructor
    · omega
    · show n < 1000000000; omega
  have ed : (p : Int).fdiv (n : Int) = ((p / n : Nat) : Int) := by
    rw [Int.fdiv_eq_ediv_of_nonneg _ (by omega)]; rfl
  have em : ∀ q : Nat, (q : Int).fmod (n : Int) = ((q % n : Nat) : Int) := by
    intro q
    rw [Int.fmod_eq_emod_of_nonneg _ (by omega)]; rfl
  have hset : ex c (.setTup [11, 12] (.tup [.bin (.Mod) (.bin (.FloorDiv) (.var 16) (.var 6)) (.var 6), .bin (.Mod) (.var 16) (.var 6)])) (frL files mask cl gr nr n b x10 x11 x12 x13 (.ref tr) x15 (.int (p : Nat)) x17) st
      = some (.next, frL files mask cl gr nr n b x10 (.int (p / n % n : Nat)) (.int (p % n : Nat)) x13 (.ref tr) x15 (.int (p : Nat)) x17, st ++ [O.tup [.int (p / n % n : Nat), .int (p % n : Nat)]]) := by
    simp only [exq_fail, exq_set, exq_setTup, exq_setTupR, exq_setItem, exq_setAttr, exq_augVar, exq_augItem, exq_expr, exq_ret, exq_ite, exq_for_, exq_whl, evq_fail, evq_int, evq_bool, evq_none, evq_var, evq_glob, evq_gtup, evq_bin, evq_un, evq_cmp, evq_ite, evq_notB, evq_andB, evq_orB, evq_truthy, evq_andV, evq_orV, evq_lst, evq_tup, evq_comp, evq_len, evq_range1, evq_range3, evq_listOf, evq_min, evq_intOf, evq_call, evq_new, evq_append, evq_extend, evq_attr, evq_sub, evq_slice, evlq_nil, evlq_cons, getV, List.getElem?_cons_zero, List.getElem?_cons_succ, Option.map_some, Option.bind_some, binq_0, binq_1, binq_2, binq_3, binq_4, binq_5, binq_6, binq_7, binq_8, binq_9, binq_10, binq_11, if_pos hn1, if_pos hn1.1, ed, em, List.getElem?_concat_length, List.length_cons, List.length_nil, if_true, setSlots, List.set_cons_zero, List.set_cons_succ]
  let s := st ++ [O.tup [.int (p / n % n : Nat), .int (p % n : Nat)]]
  have hsub : subV s (.ref tr) (.int (p : Int)) = some (.int (vals p)) := by
    unfold subV
    simp only [s, app_get ht, Int.natCast_nonneg, if_true, Int.toNat_natCast]
    simp [hp]
  have hlt : (((p : Int) < (n : Int) * (n : Int))) ↔ sdL n p = 0 := by
    have e : (n : Int) * (n : Int) = ((n * n : Nat) : Int) := (Int.natCast_mul ..).symm
    rw [e, sdL, Nat.div_eq_zero_iff]
    have : 0 < n * n := Nat.mul_pos hn0 hn0
    omega
  refine ⟨.int (p / n % n : Nat), .int (p % n : Nat), [O.tup [.int (p / n % n : Nat), .int (p % n : Nat)]], exs_cons hset (exs_cons (ex_ite (x := false) (st1 := s) ?_ ?_) exs_nil)⟩
  · by_cases hcf : p / n % n = p % n
    · have hv : vals p = 0 := hlost (by simp [loL, hcf])
      have g1 : (((p / n % n : Nat) : Int) == ((p % n : Nat) : Int)) = true := by rw [hcf]; simp
      have g2 : (((p / n % n : Nat) : Int) != ((p % n : Nat) : Int)) = false := by rw [hcf]; simp
      have g3 : ((0 : Int) != 0) = false := rfl
      simp only [s] at hsub
      simp only [evq_fail, evq_int, evq_bool, evq_none, evq_var, evq_glob, evq_gtup, evq_bin, evq_un, evq_cmp, evq_ite, evq_notB, evq_andB, evq_orB, evq_truthy, evq_andV, evq_orV, evq_lst, evq_tup, evq_comp, evq_len, evq_range1, evq_range3, evq_listOf, evq_min, evq_intOf, evq_call, evq_new, evq_append, evq_extend, evq_attr, evq_sub, evq_slice, getV, List.getElem?_cons_zero, List.getElem?_cons_succ, Option.map_some, Option.bind_some, cmpq_0, cmpq_1, cmpq_2, cmpq_3, cmpq_4, cmpq_5, cmpq_6, cmpq_7, cmpq_8, cmpq_9, g1, g2, hsub, hv, g3, s]
    · have g1 : (((p / n % n : Nat) : Int) == ((p % n : Nat) : Int)) = false := by
        rw [beq_eq_false_iff_ne]; omega
      have g2 : (((p / n % n : Nat) : Int) != ((p % n : Nat) : Int)) = true := by
        rw [bne_iff_ne]; omega
      simp only [s] at hsub
      have hpc := hpar
      by_cases hv : 0 ≤ vals p
      · have h2 := hpar hv (by simp [loL, hcf])
        have em2 : (vals p).fmod 2 = vals p % 2 := Int.fmod_eq_emod_of_nonneg _ (by omega)
        have g4 : (vals p % 2 != if decide ((p : Int) < (n : Int) * (n : Int)) = true then 1 else 0) = false := by
          simp only [decide_eq_true_eq, hlt, h2, bne_self_eq_false]
        have g5 : decide (vals p ≥ 0) = true := decide_eq_true hv
        simp only [evq_fail, evq_int, evq_bool, evq_none, evq_var, evq_glob, evq_gtup, evq_bin, evq_un, evq_cmp, evq_ite, evq_notB, evq_andB, evq_orB, evq_truthy, evq_andV, evq_orV, evq_lst, evq_tup, evq_comp, evq_len, evq_range1, evq_range3, evq_listOf, evq_min, evq_intOf, evq_call, evq_new, evq_append, evq_extend, evq_attr, evq_sub, evq_slice, getV, List.getElem?_cons_zero, List.getElem?_cons_succ, Option.map_some, Option.bind_some, cmpq_0, cmpq_1, cmpq_2, cmpq_3, cmpq_4, cmpq_5, cmpq_6, cmpq_7, cmpq_8, cmpq_9, g1, g2, hsub, g5, binq_0, binq_1, binq_2, binq_3, binq_4, binq_5, binq_6, binq_7, binq_8, binq_9, binq_10, binq_11, if_pos (show (2 : Int) ≠ 0 by omega), em2, if_pos (mulOk n n (by omega) (by omega)), g4, s]
      · have g5 : decide (vals p ≥ 0) = false := decide_eq_false hv
        simp only [evq_fail, evq_int, evq_bool, evq_none, evq_var, evq_glob, evq_gtup, evq_bin, evq_un, evq_cmp, evq_ite, evq_notB, evq_andB, evq_orB, evq_truthy, evq_andV, evq_orV, evq_lst, evq_tup, evq_comp, evq_len, evq_range1, evq_range3, evq_listOf, evq_min, evq_intOf, evq_call, evq_new, evq_append, evq_extend, evq_attr, evq_sub, evq_slice, getV, List.getElem?_cons_zero, List.getElem?_cons_succ, Option.map_some, Option.bind_some, cmpq_0, cmpq_1, cmpq_2, cmpq_3, cmpq_4, cmpq_5, cmpq_6, cmpq_7, cmpq_8, cmpq_9, g1, g2, hsub, g5, s]
  · simp only [Bool.false_eq_true, if_false, exsq_nil, exsq_cons, s]
end Mine

-- N19
/-! law: from the lists of places to its answer -/
namespace Mine
open PySem

theorem AA_mem {rows : List (List Nat)} (hg : Good rows) {p q : Nat} (hp : p < rows.length * rows.length + rows.length * rows.length) (hq : q ∈ AA rows rows.length p) :
    q < rows.length * rows.length + rows.length * rows.length ∧ (sdL rows.length p = 0 ↔ sdL rows.length q ≠ 0) := by
  obtain ⟨g1, g2, g3, g4⟩ := place_split hp
  by_cases hs : p / (rows.length * rows.length) = 0
  · simp only [AA, hs, Ap, if_true, List.map_map, List.mem_map] at hq
    obtain ⟨a, ha, rfl⟩ := hq
    have han := hg.row g2 ha
    have e : ((fun x => x + rows.length * rows.length) ∘ fun a => a * rows.length + p % rows.length) a = 1 * (rows.length * rows.length) + a * rows.length + p % rows.length := by
      show a * rows.length + p % rows.length + rows.length * rows.length = _
      omega
    rw [e]
    refine ⟨place_lt g3 han (by omega), ?_⟩
    simp only [sdL, place_side g3 han, hs]
    exact ⟨fun _ => by omega, fun _ => trivial⟩
  · simp only [AA, Ap, hs, if_false, List.map_map, List.mem_map] at hq
    obtain ⟨a, ha, rfl⟩ := hq
    have han := hg.row g3 ha
    have e : ((fun x => x + 0) ∘ fun a => p / rows.length % rows.length * rows.length + a) a = 0 * (rows.length * rows.length) + p / rows.length % rows.length * rows.length + a := by simp
    rw [e]
    refine ⟨place_lt han g2 (by omega), ?_⟩
    simp only [sdL, place_side han g2]
    exact ⟨fun h => absurd h hs, fun h => absurd rfl h⟩
theorem AA_len {rows : List (List Nat)} (hlen : ∀ x ∈ rows, x.length ≤ 9) (n p : Nat) : (AA rows n p).length ≤ 9 := by
  have hml : ∀ i, (rows.getD i []).length ≤ 9 := by
    intro i
    by_cases hi : i < rows.length
    · have : rows.getD i [] = rows[i] := by simp [hi]
      rw [this]; exact hlen _ (List.getElem_mem hi)
    · have : rows.getD i [] = [] := by simp [hi]
      rw [this]; simp
  unfold AA Ap
  split
  · rw [List.length_map, List.length_map]; exact hml _
  · rw [List.length_map, List.length_map]; exact hml _
theorem AA_stay {rows : List (List Nat)} (hg : Good rows) {p : Nat} (hp : p < rows.length * rows.length + rows.length * rows.length) (hs : sdL rows.length p ≠ 0) (hl : loL rows.length p = false) : ∃ q ∈ AA rows rows.length p, loL rows.length q = false := by
  obtain ⟨g1, g2, g3, g4⟩ := place_split hp
  refine ⟨0 * (rows.length * rows.length) + p / rows.length % rows.length * rows.length + p % rows.length, ?_, ?_⟩
  · simp only [sdL] at hs
    simp only [AA, Ap, hs, if_false, List.map_map, List.mem_map]
    exact ⟨p % rows.length, hg.refl _ g3, by simp⟩
  · rw [loL, place_div_mod g3 g2, place_mod g3]; exact hl

theorem law_tail (scr : List Int) {st : St} {files mask : Int} {cl gr nr n b : Nat} {rows : List (List Nat)} {x10 x11 x12 x13 x14 x15 x16 x17 : V}
    (hr : Rows st nr rows) (hn : n = rows.length) (hn9 : n < 10) (hn0 : 0 < n) (hg : Good rows) (hlen : ∀ x ∈ rows, x.length ≤ 9)
    (hS : st[b]? = some (.lst ((List.range (n * n + n * n)).map fun p => V.int (sdL n p : Nat)))) (hA : Rows st (b + 1) ((List.range (n * n + n * n)).map (AA rows n)))
    (hL : st[b + 2]? = some (.lst ((List.range (n * n + n * n)).map fun p => V.bool (loL n p))))
    (hF : ∀ vals, Ans (n * n + n * n) (AA rows n) (sdL n) (loL n) vals → (foldsF rows rows.length (List.range rows.length) = true → wholeF rows = true) ∧ ∀ c, c < n → ((∀ f, f < n → 0 ≤ vals (c * n + f)) ↔ foldsF rows rows.length (List.range rows.length) = true)) :
    ∃ fr' st', exs ⟨2000, run myFns 2000 scr theTups 5, scr, theTups⟩ tailB (frL files mask cl gr nr n b x10 x11 x12 x13 x14 x15 x16 x17) st = some (.ret (.bool true), fr', st') := by
  have hnn : n * n ≤ 9 * 9 := Nat.mul_le_mul (by omega) (by omega)
  have hlen100 : ∀ x ∈ rows, x.length < 100 := fun x hx => by have := hlen x hx; omega
  obtain ⟨tr, e1, vals, h1, hans, ht⟩ := solve_spec scr 4 (N := n * n + n * n) (A := AA rows n) (sd := sdL n) (lo := loL n) (by omega) hA (fun p hp q hq => by subst hn; exact (AA_mem hg hp hq).1) (fun p _ => AA_len hlen n p) hS hL
    (fun p hp q hq => by subst hn; exact (AA_mem hg hp hq).2) (fun p hp hs hl => by subst hn; exact AA_stay hg hp hs hl)
  obtain ⟨hF1, hF2⟩ := hF vals hans
  let c : Cfg := ⟨2000, run myFns 2000 scr theTups 5, scr, theTups⟩
  have hs14 : ex c (.set 14 (.call 10 [.var 7, .var 8, .var 9])) (frL files mask cl gr nr n b x10 x11 x12 x13 x14 x15 x16 x17) st = some (.next, frL files mask cl gr nr n b x10 x11 x12 x13 (.ref tr) x15 x16 x17, st ++ e1) := by
    simp only [exq_fail, exq_set, exq_setTup, exq_setTupR, exq_setItem, exq_setAttr, exq_augVar, exq_augItem, exq_expr, exq_ret, exq_ite, exq_for_, exq_whl, evq_fail, evq_int, evq_bool, evq_none, evq_var, evq_glob, evq_gtup, evq_bin, evq_un, evq_cmp, evq_ite, evq_notB, evq_andB, evq_orB, evq_truthy, evq_andV, evq_orV, evq_lst, evq_tup, evq_comp, evq_len, evq_range1, evq_range3, evq_listOf, evq_min, evq_intOf, evq_call, evq_new, evq_append, evq_extend, evq_attr, evq_sub, evq_slice, evlq_nil, evlq_cons, getV, List.getElem?_cons_zero, List.getElem?_cons_succ, Option.map_some, Option.bind_some, c, h1, List.set_cons_zero, List.set_cons_succ]
  have hr1 := hr.append e1
  obtain ⟨e2, h2⟩ := folds_run scr 4 hr1 (by omega) hlen100
  obtain ⟨e3, h3⟩ := whole_run scr 4 (hr1.append e2) (by omega) (by omega) hlen100 hg.lt hg.nd
  -- after the second check
  obtain ⟨st2, hck, hlow2⟩ : ∃ st2, ex c (.ite (.andB (.truthy (.call 11 [.var 5])) (.notB (.truthy (.call 12 [.var 5])))) [.ret (.bool false)] []) (frL files mask cl gr nr n b x10 x11 x12 x13 (.ref tr) x15 x16 x17) (st ++ e1) = some (.next, frL files mask cl gr nr n b x10 x11 x12 x13 (.ref tr) x15 x16 x17, st2) ∧ ∃ e, st2 = st ++ e1 ++ e := by
    cases hfo : foldsF rows rows.length (List.range rows.length) with
    | false =>
      rw [hfo] at h2
      refine ⟨st ++ e1 ++ e2, ex_ite (x := false) (st1 := st ++ e1 ++ e2) ?_ ?_, e2, rfl⟩
      · simp only [evq_fail, evq_int, evq_bool, evq_none, evq_var, evq_glob, evq_gtup, evq_bin, evq_un, evq_cmp, evq_ite, evq_notB, evq_andB, evq_orB, evq_truthy, evq_andV, evq_orV, evq_lst, evq_tup, evq_comp, evq_len, evq_range1, evq_range3, evq_listOf, evq_min, evq_intOf, evq_call, evq_new, evq_append, evq_extend, evq_attr, evq_sub, evq_slice, evlq_nil, evlq_cons, getV, List.getElem?_cons_zero, List.getElem?_cons_succ, Option.map_some, Option.bind_some, c, h2, truthyV]
      · simp only [Bool.false_eq_true, if_false, exsq_nil, exsq_cons]
    | true =>
      rw [hfo] at h2
      rw [hF1 hfo] at h3
      refine ⟨st ++ e1 ++ e2 ++ e3, ex_ite (x := false) (st1 := st ++ e1 ++ e2 ++ e3) ?_ ?_, e2 ++ e3, by simp⟩
      · simp only [evq_fail, evq_int, evq_bool, evq_none, evq_var, evq_glob, evq_gtup, evq_bin, evq_un, evq_cmp, evq_ite, evq_notB, evq_andB, evq_orB, evq_truthy, evq_andV, evq_orV, evq_lst, evq_tup, evq_comp, evq_len, evq_range1, evq_range3, evq_listOf, evq_min, evq_intOf, evq_call, evq_new, evq_append, evq_extend, evq_attr, evq_sub, evq_slice, evlq_nil, evlq_cons, getV, List.getElem?_cons_zero, List.getElem?_cons_succ, Option.map_some, Option.bind_some, c, h2, h3, truthyV, Bool.not_true]
      · simp only [Bool.false_eq_true, if_false, exsq_nil, exsq_cons]
  obtain ⟨e4, rfl⟩ := hlow2
  have hr2 := hr1.append e4
  have ht2 : (st ++ e1 ++ e4)[tr]? = some (.lst ((List.range (n * n + n * n)).map fun p => V.int (vals p))) := app_get ht
  generalize hst2 : st ++ e1 ++ e4 = s2 at hck hr2 ht2
  have hsm : smallI (n : Int) = true := by simp [smallI]; omega
  -- the rows
  let P : Nat → List V → St → Prop := fun i fr s => (∃ y11 y15, fr = frL files mask cl gr nr n b x10 y11 x12 x13 (.ref tr) y15 x16 x17) ∧ Low s2.length s2 s
  obtain ⟨fr3, s3, g1, ⟨y11, y15, rfl⟩, g2⟩ := for_range (body := fun fr st => exs c rowB fr st) (slot := 11) (j := s2.length) (m := n) (n := c.N) P (by show n < 2000; omega)
    (fun i hi fr s h => by
      obtain ⟨⟨y11, y15, rfl⟩, hlow⟩ := h
      obtain ⟨e, k1⟩ := row_step scr (files := files) (mask := mask) (cl := cl) (gr := gr) (b := b) (x10 := x10) (x12 := x12) (x13 := x13) (x15 := y15) (x16 := x16) (x17 := x17) (hlow.rows hr2) hn hn9 hlen100 (hlow.at ht2) hi (hF2 i hi)
      exact ⟨_, _, k1, ⟨_, _, rfl⟩, hlow.ext e⟩)
    (frL files mask cl gr nr n b x10 x11 x12 x13 (.ref tr) x15 x16 x17) (s2 ++ [O.rng 0 n 1]) ⟨⟨_, _, rfl⟩, (Low.refl s2).ext _⟩
  have hrows : ex c (.for_ 11 (.range1 (.var 6)) rowB) (frL files mask cl gr nr n b x10 x11 x12 x13 (.ref tr) x15 x16 x17) s2 = some (.next, frL files mask cl gr nr n b x10 y11 x12 x13 (.ref tr) y15 x16 x17, s3) := by
    refine ex_for (k := s2.length) (o := .rng 0 n 1) (st1 := s2 ++ [O.rng 0 n 1]) ?_ (by simp) g1
    simp only [evq_fail, evq_int, evq_bool, evq_none, evq_var, evq_glob, evq_gtup, evq_bin, evq_un, evq_cmp, evq_ite, evq_notB, evq_andB, evq_orB, evq_truthy, evq_andV, evq_orV, evq_lst, evq_tup, evq_comp, evq_len, evq_range1, evq_range3, evq_listOf, evq_min, evq_intOf, evq_call, evq_new, evq_append, evq_extend, evq_attr, evq_sub, evq_slice, getV, List.getElem?_cons_zero, List.getElem?_cons_succ, Option.map_some, Option.bind_some, hsm, if_true]
  -- the places
  have ht3 := g2.at ht2
  have hlen3 : lenV s3 (.ref tr) = some (n * n + n * n) := by unfold lenV; simp only [ht3, List.length_map, List.length_range]
  have hsm3 : smallI ((n * n + n * n : Nat) : Int) = true := by
    simp only [smallI, decide_eq_true_eq]
    show n * n + n * n < 100000
    omega
  let P2 : Nat → List V → St → Prop := fun i fr s => (∃ y11 y12 y16, fr = frL files mask cl gr nr n b x10 y11 y12 x13 (.ref tr) y15 y16 x17) ∧ Low s3.length s3 s
  obtain ⟨fr4, s4, g3, ⟨z11, z12, z16, rfl⟩, g4⟩ := for_range (body := fun fr st => exs c placeCk fr st) (slot := 16) (j := s3.length) (m := n * n + n * n) (n := c.N) P2 (by show n * n + n * n < 2000; omega)
    (fun i hi fr s h => by
      obtain ⟨⟨y11, y12, y16, rfl⟩, hlow⟩ := h
      obtain ⟨u11, u12, e, k1⟩ := place_ck c (files := files) (mask := mask) (cl := cl) (gr := gr) (nr := nr) (b := b) (x10 := x10) (x11 := y11) (x12 := y12) (x13 := x13) (x15 := y15) (x17 := x17) hn9 (hlow.at ht3) hi (hans.lost i hi) (hans.par i hi)
      exact ⟨_, _, k1, ⟨_, _, _, rfl⟩, hlow.ext e⟩)
    (frL files mask cl gr nr n b x10 y11 x12 x13 (.ref tr) y15 x16 x17) (s3 ++ [O.rng 0 (n * n + n * n : Nat) 1]) ⟨⟨_, _, _, rfl⟩, (Low.refl s3).ext _⟩
  have hplaces : ex c (.for_ 16 (.range1 (.len (.var 14))) placeCk) (frL files mask cl gr nr n b x10 y11 x12 x13 (.ref tr) y15 x16 x17) s3 = some (.next, frL files mask cl gr nr n b x10 z11 z12 x13 (.ref tr) y15 z16 x17, s4) := by
    refine ex_for (k := s3.length) (o := .rng 0 (n * n + n * n : Nat) 1) (st1 := s3 ++ [O.rng 0 (n * n + n * n : Nat) 1]) ?_ (by simp) g3
    simp only [evq_fail, evq_int, evq_bool, evq_none, evq_var, evq_glob, evq_gtup, evq_bin, evq_un, evq_cmp, evq_ite, evq_notB, evq_andB, evq_orB, evq_truthy, evq_andV, evq_orV, evq_lst, evq_tup, evq_comp, evq_len, evq_range1, evq_range3, evq_listOf, evq_min, evq_intOf, evq_call, evq_new, evq_append, evq_extend, evq_attr, evq_sub, evq_slice, getV, List.getElem?_cons_zero, List.getElem?_cons_succ, Option.map_some, Option.bind_some, hlen3, hsm3, if_true]
  subst hst2
  exact ⟨_, s4, exs_cons hs14 (exs_cons hck (exs_cons hrows (exs_cons hplaces (exs_ret (ex_ret (by simp only [evq_fail, evq_int, evq_bool, evq_none, evq_var, evq_glob, evq_gtup, evq_bin, evq_un, evq_cmp, evq_ite, evq_notB, evq_andB, evq_orB, evq_truthy, evq_andV, evq_orV, evq_lst, evq_tup, evq_comp, evq_len, evq_range1, evq_range3, evq_listOf, evq_min, evq_intOf, evq_call, evq_new, evq_append, evq_extend, evq_attr, evq_sub, evq_slice]))))))⟩
end Mine

-- N20
/-! law, whole: the pure law -/
namespace Mine
open PySem

noncomputable def restB : List MS := [.set 5 (.call 9 [.var 4, .comp 17 (.range1 (.bin (.Mult) (.int 3) (.var 2))) (.cmp (.Eq) (.bin (.BitAnd) (.bin (.RShift) (.var 3) (.var 17)) (.int 1)) (.int 1)) (.var 17)]), .set 6 (.len (.var 5)), .setTupR [7, 8, 9] (.tup [.lst [], .lst [], .lst []]), .for_ 10 (.tup [.glob 0, .glob 1]) [.for_ 11 (.range1 (.var 6)) [.for_ 12 (.range1 (.var 6)) placeBody]]] ++ tailB

theorem mask_bits : ∀ m : Nat, m < 512 → ∀ s : Nat, s < 9 → (Builtin.bitAnd ((m : Int).fdiv (2 ^ s)) 1 == 1) = Nat.testBit m s := by decide +kernel

theorem exs_app {c : Cfg} {a b : List MS} {fr fr' : List V} {s s' : St} {res} (h : exs c a fr s = some (.next, fr', s')) (h2 : exs c b fr' s' = res) : exs c (a ++ b) fr s = res := by
  rw [← h2]; clear h2
  induction a generalizing fr s with
  | nil => simp only [exsq_nil, exsq_cons, Option.some.injEq, Prod.mk.injEq, true_and] at h; obtain ⟨rfl, rfl⟩ := h; rfl
  | cons x r ih =>
    simp only [exsq_nil, exsq_cons, List.cons_append] at h ⊢
    cases hx : ex c x fr s with
    | none => rw [hx] at h; simp at h
    | some p =>
      obtain ⟨f, fr1, s1⟩ := p
      rw [hx] at h
      simp only [Option.bind_some] at h ⊢
      cases f with
      | next => exact ih h
      | ret v => simp at h

theorem law_rest (scr : List Int) {st : St} {files m cl gr dd k : Nat} {fs : List (Nat × V)} {kl : List Int} (hf : files = 2 ∨ files = 3) (hm : m < 512) (hne : 0 < (sqOf files m).length)
    (hg : st[gr]? = some (.inst dd)) (hd : st[dd]? = some (.dct fs)) (hfs : fs.lookup 9 = some (V.ref k)) (hkl : st[k]? = some (.lst (kl.map V.int)))
    (hadj : ∀ s, s < 3 * files → ∃ ks, kl[s]? = some ks ∧ ks.natAbs < 2 ^ 64 ∧ ∀ t, t < 3 * files → (Builtin.bitAnd ((Builtin.bitOr ks (1 * 2 ^ s)).fdiv (2 ^ t)) 1 == 1) = adj files s t)
    (hck : check files m = true) :
    ∃ fr' st', exs ⟨2000, run myFns 2000 scr theTups 5, scr, theTups⟩ restB [.scr, .ref cl, .int (files : Nat), .int (m : Nat), .ref gr, .undef, .undef, .undef, .undef, .undef, .undef, .undef, .undef, .undef, .undef, .undef, .undef, .undef] st = some (.ret (.bool true), fr', st') := by
  let c : Cfg := ⟨2000, run myFns 2000 scr theTups 5, scr, theTups⟩
  have hf9 : 3 * files ≤ 9 := by omega
  -- the squares
  let s1 := st ++ [O.rng 0 (3 * files : Nat) 1, O.lst (natL (sqOf files m))]
  have hsq : ev c (.comp 17 (.range1 (.bin (.Mult) (.int 3) (.var 2))) (.cmp (.Eq) (.bin (.BitAnd) (.bin (.RShift) (.var 3) (.var 17)) (.int 1)) (.int 1)) (.var 17)) [.scr, .ref cl, .int (files : Nat), .int (m : Nat), .ref gr, .undef, .undef, .undef, .undef, .undef, .undef, .undef, .undef, .undef, .undef, .undef, .undef, .undef] st = some (.ref (st.length + 1), s1) := by
    have e3 : (3 : Int) * (files : Int) = ((3 * files : Nat) : Int) := by omega
    have hsm : smallI ((3 * files : Nat) : Int) = true := by
      simp only [smallI, decide_eq_true_eq]
      show 3 * files < 100000
      omega
    have hb : ((3 : Int).natAbs < 2 ^ 60 ∧ (files : Int).natAbs < 2 ^ 60) := ⟨by decide, by show files < 2 ^ 60; omega⟩
    have := ev_comp_range c (slot := 17) (iter := .range1 (.bin (.Mult) (.int 3) (.var 2))) (cond := .cmp (.Eq) (.bin (.BitAnd) (.bin (.RShift) (.var 3) (.var 17)) (.int 1)) (.int 1)) (elt := .var 17) (fr := [.scr, .ref cl, .int (files : Nat), .int (m : Nat), .ref gr, .undef, .undef, .undef, .undef, .undef, .undef, .undef, .undef, .undef, .undef, .undef, .undef, .undef]) (st := st) (st1 := st ++ [.rng 0 (3 * files : Nat) 1]) (j := st.length) (n := 3 * files) (p := fun s => Nat.testBit m s) (f := fun n => V.int (n : Int)) (by show 3 * files < 2000; omega) (by unfold lim; omega)
      (by simp only [evq_fail, evq_int, evq_bool, evq_none, evq_var, evq_glob, evq_gtup, evq_bin, evq_un, evq_cmp, evq_ite, evq_notB, evq_andB, evq_orB, evq_truthy, evq_andV, evq_orV, evq_lst, evq_tup, evq_comp, evq_len, evq_range1, evq_range3, evq_listOf, evq_min, evq_intOf, evq_call, evq_new, evq_append, evq_extend, evq_attr, evq_sub, evq_slice, getV, List.getElem?_cons_zero, List.getElem?_cons_succ, Option.map_some, Option.bind_some, binq_0, binq_1, binq_2, binq_3, binq_4, binq_5, binq_6, binq_7, binq_8, binq_9, binq_10, binq_11, if_pos hb, e3, hsm, if_true])
      (by simp) (by
        intro i hi acc
        have hmb := mask_bits m hm i (by omega)
        simp only [evq_fail, evq_int, evq_bool, evq_none, evq_var, evq_glob, evq_gtup, evq_bin, evq_un, evq_cmp, evq_ite, evq_notB, evq_andB, evq_orB, evq_truthy, evq_andV, evq_orV, evq_lst, evq_tup, evq_comp, evq_len, evq_range1, evq_range3, evq_listOf, evq_min, evq_intOf, evq_call, evq_new, evq_append, evq_extend, evq_attr, evq_sub, evq_slice, getV, List.getElem?_cons_zero, List.getElem?_cons_succ, Option.map_some, Option.bind_some, binq_0, binq_1, binq_2, binq_3, binq_4, binq_5, binq_6, binq_7, binq_8, binq_9, binq_10, binq_11, Int.toNat_natCast, Int.natCast_nonneg, if_true, List.set_cons_zero, List.set_cons_succ, cmpq_0, cmpq_1, cmpq_2, cmpq_3, cmpq_4, cmpq_5, cmpq_6, cmpq_7, cmpq_8, cmpq_9, hmb]) (by
        intro i hi _ acc
        simp only [evq_fail, evq_int, evq_bool, evq_none, evq_var, evq_glob, evq_gtup, evq_bin, evq_un, evq_cmp, evq_ite, evq_notB, evq_andB, evq_orB, evq_truthy, evq_andV, evq_orV, evq_lst, evq_tup, evq_comp, evq_len, evq_range1, evq_range3, evq_listOf, evq_min, evq_intOf, evq_call, evq_new, evq_append, evq_extend, evq_attr, evq_sub, evq_slice, getV, List.getElem?_cons_zero, List.getElem?_cons_succ, Option.map_some, List.set_cons_zero, List.set_cons_succ])
    rw [this]
    simp [s1, sqOf]
  have hsql := sq_len files m
  -- near
  obtain ⟨nr, e1, h1, hr⟩ := near_run scr 4 (st := s1) (g := gr) (q := st.length + 1) (sq := sqOf files m) (adj := adj files) (kl := kl) (app_get hg) (app_get hd) hfs (app_get hkl) (by simp [s1]) (by omega) (by
    intro s hs
    have hs3 : s < 3 * files := List.mem_range.mp (List.mem_filter.mp hs).1
    obtain ⟨ks, g1, g2, g3⟩ := hadj s hs3
    exact ⟨by omega, ks, g1, g2, fun t ht => g3 t (List.mem_range.mp (List.mem_filter.mp ht).1)⟩)
  have hrows : nearF (adj files) (sqOf files m) = rowsOf files m := rfl
  rw [hrows] at hr
  have hrl : (rowsOf files m).length = (sqOf files m).length := nearF_len ..
  have hgood := good_rows hf m
  generalize hrr : rowsOf files m = rows at hr hrl hgood
  have hlen9 : ∀ x ∈ rows, x.length ≤ 9 := by
    intro x hx
    rw [← hrr] at hx
    have := nearF_rowlen hx
    omega
  have hF := fun vals => check_law (files := files) (mask := m) (vals := vals) (good_rows hf m) hck
  rw [hrr] at hF
  have h5 : ex c (.set 5 (.call 9 [.var 4, .comp 17 (.range1 (.bin (.Mult) (.int 3) (.var 2))) (.cmp (.Eq) (.bin (.BitAnd) (.bin (.RShift) (.var 3) (.var 17)) (.int 1)) (.int 1)) (.var 17)])) [.scr, .ref cl, .int (files : Nat), .int (m : Nat), .ref gr, .undef, .undef, .undef, .undef, .undef, .undef, .undef, .undef, .undef, .undef, .undef, .undef, .undef] st
      = some (.next, [.scr, .ref cl, .int (files : Nat), .int (m : Nat), .ref gr, .ref nr, .undef, .undef, .undef, .undef, .undef, .undef, .undef, .undef, .undef, .undef, .undef, .undef], s1 ++ e1) := by
    generalize ME.comp 17 (.range1 (.bin (.Mult) (.int 3) (.var 2))) (.cmp (.Eq) (.bin (.BitAnd) (.bin (.RShift) (.var 3) (.var 17)) (.int 1)) (.int 1)) (.var 17) = e at hsq ⊢
    simp only [exq_fail, exq_set, exq_setTup, exq_setTupR, exq_setItem, exq_setAttr, exq_augVar, exq_augItem, exq_expr, exq_ret, exq_ite, exq_for_, exq_whl, evq_fail, evq_int, evq_bool, evq_none, evq_var, evq_glob, evq_gtup, evq_bin, evq_un, evq_cmp, evq_ite, evq_notB, evq_andB, evq_orB, evq_truthy, evq_andV, evq_orV, evq_lst, evq_tup, evq_comp, evq_len, evq_range1, evq_range3, evq_listOf, evq_min, evq_intOf, evq_call, evq_new, evq_append, evq_extend, evq_attr, evq_sub, evq_slice, evlq_nil, evlq_cons, getV, List.getElem?_cons_zero, List.getElem?_cons_succ, Option.map_some, Option.bind_some, hsq, List.set_cons_zero, List.set_cons_succ]
    simp only [c, h1, Option.map_some, List.set_cons_zero, List.set_cons_succ]
  let s2 := s1 ++ e1
  obtain ⟨ks, hks1, hks2, _⟩ := id hr
  have h6 : ex c (.set 6 (.len (.var 5))) [.scr, .ref cl, .int (files : Nat), .int (m : Nat), .ref gr, .ref nr, .undef, .undef, .undef, .undef, .undef, .undef, .undef, .undef, .undef, .undef, .undef, .undef] s2
      = some (.next, [.scr, .ref cl, .int (files : Nat), .int (m : Nat), .ref gr, .ref nr, .int (rows.length : Nat), .undef, .undef, .undef, .undef, .undef, .undef, .undef, .undef, .undef, .undef, .undef], s2) := by
    simp only [exq_fail, exq_set, exq_setTup, exq_setTupR, exq_setItem, exq_setAttr, exq_augVar, exq_augItem, exq_expr, exq_ret, exq_ite, exq_for_, exq_whl, evq_fail, evq_int, evq_bool, evq_none, evq_var, evq_glob, evq_gtup, evq_bin, evq_un, evq_cmp, evq_ite, evq_notB, evq_andB, evq_orB, evq_truthy, evq_andV, evq_orV, evq_lst, evq_tup, evq_comp, evq_len, evq_range1, evq_range3, evq_listOf, evq_min, evq_intOf, evq_call, evq_new, evq_append, evq_extend, evq_attr, evq_sub, evq_slice, getV, List.getElem?_cons_zero, List.getElem?_cons_succ, Option.map_some, Option.bind_some, lenV, s2, hks1, List.length_map, hks2, List.set_cons_zero, List.set_cons_succ]
  let s3 := s2 ++ [O.lst [], O.lst [], O.lst [], O.tup [.ref s2.length, .ref (s2.length + 1), .ref (s2.length + 2)]]
  have h7 : ex c (.setTupR [7, 8, 9] (.tup [.lst [], .lst [], .lst []])) [.scr, .ref cl, .int (files : Nat), .int (m : Nat), .ref gr, .ref nr, .int (rows.length : Nat), .undef, .undef, .undef, .undef, .undef, .undef, .undef, .undef, .undef, .undef, .undef] s2
      = some (.next, frL (files : Nat) (m : Nat) cl gr nr rows.length s2.length .undef .undef .undef .undef .undef .undef .undef .undef, s3) := by
    have e1 : ev c (.tup [.lst [], .lst [], .lst []]) [.scr, .ref cl, .int (files : Nat), .int (m : Nat), .ref gr, .ref nr, .int (rows.length : Nat), .undef, .undef, .undef, .undef, .undef, .undef, .undef, .undef, .undef, .undef, .undef] s2 = some (.ref (s2.length + 3), s3) := by
      simp only [evq_fail, evq_int, evq_bool, evq_none, evq_var, evq_glob, evq_gtup, evq_bin, evq_un, evq_cmp, evq_ite, evq_notB, evq_andB, evq_orB, evq_truthy, evq_andV, evq_orV, evq_lst, evq_tup, evq_comp, evq_len, evq_range1, evq_range3, evq_listOf, evq_min, evq_intOf, evq_call, evq_new, evq_append, evq_extend, evq_attr, evq_sub, evq_slice, evlq_nil, evlq_cons, Option.map_some, Option.bind_some, List.length_append, List.length_cons, List.length_nil, List.append_assoc, List.cons_append, List.nil_append, s3]
    have e2 : s3[s2.length + 3]? = some (O.tup [.ref s2.length, .ref (s2.length + 1), .ref (s2.length + 2)]) := by
      simp [s3]
    simp only [exq_fail, exq_set, exq_setTup, exq_setTupR, exq_setItem, exq_setAttr, exq_augVar, exq_augItem, exq_expr, exq_ret, exq_ite, exq_for_, exq_whl, e1, Option.bind_some, e2, List.length_cons, List.length_nil, if_true]
    rfl
  have hB : BS s2 rows rows.length 0 (s3 ++ [O.tup [.int 0, .int 1]]) := by
    refine ⟨?_, ?_, ⟨[], ?_, rfl, fun i hi => by omega⟩, ?_, ?_⟩
    · exact ((Low.refl s2).ext _).ext _
    · simp [s3]
    · simp [s3]
    · simp [s3]
    · simp [s3]
  have hn10 : rows.length < 10 := by omega
  obtain ⟨y10, y11, y12, y13, s4, h8, hB4⟩ := loop1 c rfl (files := (files : Nat)) (mask := (m : Nat)) (cl := cl) (gr := gr) (x10 := .undef) (x11 := .undef) (x12 := .undef) (x13 := .undef) (x14 := .undef) (x15 := .undef) (x16 := .undef) (x17 := .undef) hr rfl hn10 (fun x hx => by have := hlen9 x hx; omega) hgood.lt hB
  have hfor : ex c (.for_ 10 (.tup [.glob 0, .glob 1]) [.for_ 11 (.range1 (.var 6)) [.for_ 12 (.range1 (.var 6)) placeBody]]) (frL (files : Nat) (m : Nat) cl gr nr rows.length s2.length .undef .undef .undef .undef .undef .undef .undef .undef) s3 = some (.next, frL (files : Nat) (m : Nat) cl gr nr rows.length s2.length y10 y11 y12 y13 .undef .undef .undef .undef, s4) := by
    refine ex_for (k := s2.length + 4) (o := .tup [.int 0, .int 1]) (st1 := s3 ++ [O.tup [.int 0, .int 1]]) ?_ ?_ h8
    · have : s3.length = s2.length + 4 := by simp [s3]
      simp only [evq_fail, evq_int, evq_bool, evq_none, evq_var, evq_glob, evq_gtup, evq_bin, evq_un, evq_cmp, evq_ite, evq_notB, evq_andB, evq_orB, evq_truthy, evq_andV, evq_orV, evq_lst, evq_tup, evq_comp, evq_len, evq_range1, evq_range3, evq_listOf, evq_min, evq_intOf, evq_call, evq_new, evq_append, evq_extend, evq_attr, evq_sub, evq_slice, evlq_nil, evlq_cons, Option.map_some, Option.bind_some, this]
    · exact hB.t
  have hnn : 2 * (rows.length * rows.length) = rows.length * rows.length + rows.length * rows.length := Nat.two_mul _
  rw [hnn] at hB4
  obtain ⟨low4, hS4, ⟨ks4, hA1, hA2, hA3⟩, hL4, _⟩ := hB4
  have hA4 : Rows s4 (s2.length + 1) ((List.range (rows.length * rows.length + rows.length * rows.length)).map (AA rows rows.length)) := by
    refine ⟨ks4, hA1, by simp [hA2], fun i r hi => ?_⟩
    have hil : i < rows.length * rows.length + rows.length * rows.length := by
      have := (List.getElem?_eq_some_iff.mp hi).1
      simpa using this
    obtain ⟨kk, g1, g2, g3⟩ := hA3 i hil
    refine ⟨kk, g1, ?_⟩
    rw [List.getElem?_map, List.getElem?_range hil, Option.map_some, Option.some.injEq] at hi
    rw [← hi]; exact g3
  obtain ⟨fr', st', htail⟩ := law_tail scr (files := (files : Nat)) (mask := (m : Nat)) (cl := cl) (gr := gr) (x10 := y10) (x11 := y11) (x12 := y12) (x13 := y13) (x14 := .undef) (x15 := .undef) (x16 := .undef) (x17 := .undef) (low4.rows hr) rfl hn10 (by omega) hgood hlen9 hS4 hA4 hL4 hF
  refine ⟨fr', st', ?_⟩
  exact exs_app (exs_cons h5 (exs_cons h6 (exs_cons h7 (exs_cons hfor exs_nil)))) htail

noncomputable def headB : List MS := [.set 1 (.bin (.Add) (.slice (.var 0) (.none) (.int 2)) (.slice (.lst [.int 1, .int 123]) (.len (.slice (.var 0) (.none) (.int 2))) (.none))), .set 2 (.bin (.Add) (.int 2) (.bin (.Mod) (.sub (.var 1) (.int 0)) (.int 2))), .set 3 (.bin (.Add) (.int 1) (.bin (.Mod) (.sub (.var 1) (.int 1)) (.bin (.Sub) (.bin (.Pow) (.int 2) (.bin (.Mult) (.int 3) (.var 2))) (.int 1)))), .ite (.cmp (.Eq) (.var 3) (.int 511)) [.set 3 (.int 495)] [], .set 4 (.call 8 [.var 2, .int 3, .bool false, .bool false])]

theorem law_split : lawB = headB ++ restB := by rfl

theorem cells_two (scr : List Int) : ∃ c0 c1 : Int, (scr.map V.int).take 2 ++ ([V.int 1, V.int 123]).drop ((scr.map V.int).take 2).length = [.int c0, .int c1] := by
  rcases scr with _ | ⟨a, _ | ⟨b, r⟩⟩
  · exact ⟨1, 123, rfl⟩
  · exact ⟨a, 123, rfl⟩
  · exact ⟨a, b, by simp⟩

theorem call_set {N : Nat} {C : Nat → List V → St → Option (V × St)} {scr : List Int} {gt : List (List Int)} {i f : Nat} {args : List ME} {fr : List V} {st st1 st' : St} {vs : List V} {v : V} (h1 : evL ⟨N, C, scr, gt⟩ args fr st = some (vs, st1)) (h2 : C f vs st1 = some (v, st')) : ex ⟨N, C, scr, gt⟩ (.set i (.call f args)) fr st = some (.next, fr.set i v, st') := by
  rw [show ex ⟨N, C, scr, gt⟩ (.set i (.call f args)) fr st = ((evL ⟨N, C, scr, gt⟩ args fr st).bind fun p => C f p.1 p.2).map (fun p => (.next, fr.set i p.1, p.2)) from rfl, h1]
  simp only [Option.bind_some, h2, Option.map_some]
theorem call_args (c : Cfg) {f : V} {x0 x1 x3 : V} {fr : List V} {st : St} (hf : getV (x0 :: x1 :: f :: x3 :: fr) 2 = some f) : evL c [.var 2, .int 3, .bool false, .bool false] (x0 :: x1 :: f :: x3 :: fr) st = some ([f, .int 3, .bool false, .bool false], st) := by
  simp only [evq_fail, evq_int, evq_bool, evq_none, evq_var, evq_glob, evq_gtup, evq_bin, evq_un, evq_cmp, evq_ite, evq_notB, evq_andB, evq_orB, evq_truthy, evq_andV, evq_orV, evq_lst, evq_tup, evq_comp, evq_len, evq_range1, evq_range3, evq_listOf, evq_min, evq_intOf, evq_call, evq_new, evq_append, evq_extend, evq_attr, evq_sub, evq_slice, evlq_nil, evlq_cons, hf, Option.map_some, Option.bind_some]

theorem law_head (scr : List Int) (d : Nat) (hd : d = 5) : ∃ (o0 o1 o2 o3 o4 : O) (files m : Nat), (files = 2 ∧ 1 ≤ m ∧ m < 64 ∨ files = 3 ∧ 1 ≤ m ∧ m < 511) ∧
    exs ⟨2000, run myFns 2000 scr theTups d, scr, theTups⟩ headB [.scr, .undef, .undef, .undef, .undef, .undef, .undef, .undef, .undef, .undef, .undef, .undef, .undef, .undef, .undef, .undef, .undef, .undef] []
      = some (.next, [.scr, .ref 4, .int (files : Nat), .int (m : Nat), .ref 6, .undef, .undef, .undef, .undef, .undef, .undef, .undef, .undef, .undef, .undef, .undef, .undef, .undef], [o0, o1, o2, o3, o4] ++ (if files = 2 then geoSt2 else geoSt3)) := by
  subst hd
  obtain ⟨c0, c1, hc⟩ := cells_two scr
  let t2 := (scr.map V.int).take 2
  let c : Cfg := ⟨2000, run myFns 2000 scr theTups 5, scr, theTups⟩
  have ht2 : t2.length ≤ 2 := List.length_take_le ..
  let s1 : St := [.lst t2, .lst [.int 1, .int 123], .lst t2, .lst (([V.int 1, V.int 123]).drop t2.length), .lst [.int c0, .int c1]]
  have hsl : sliceL (scr.map V.int) .none (.int 2) = some t2 := rfl
  have hsl2 : sliceL [V.int 1, V.int 123] (.int (t2.length : Nat)) .none = some (([V.int 1, V.int 123]).drop t2.length) := by
    unfold sliceL
    simp only [Int.natCast_nonneg, if_true, Int.toNat_natCast]
  have h1 : ex c (.set 1 (.bin (.Add) (.slice (.var 0) (.none) (.int 2)) (.slice (.lst [.int 1, .int 123]) (.len (.slice (.var 0) (.none) (.int 2))) (.none)))) [.scr, .undef, .undef, .undef, .undef, .undef, .undef, .undef, .undef, .undef, .undef, .undef, .undef, .undef, .undef, .undef, .undef, .undef] []
      = some (.next, [.scr, .ref 4, .undef, .undef, .undef, .undef, .undef, .undef, .undef, .undef, .undef, .undef, .undef, .undef, .undef, .undef, .undef, .undef], s1) := by
    have hlim : t2.length + (([V.int 1, V.int 123]).drop t2.length).length < lim := by
      rw [List.length_drop]; unfold lim; simp; omega
    have hc' : t2 ++ ([V.int 1, V.int 123]).drop t2.length = [.int c0, .int c1] := hc
    simp only [exq_fail, exq_set, exq_setTup, exq_setTupR, exq_setItem, exq_setAttr, exq_augVar, exq_augItem, exq_expr, exq_ret, exq_ite, exq_for_, exq_whl, evq_fail, evq_int, evq_bool, evq_none, evq_var, evq_glob, evq_gtup, evq_bin, evq_un, evq_cmp, evq_ite, evq_notB, evq_andB, evq_orB, evq_truthy, evq_andV, evq_orV, evq_lst, evq_tup, evq_comp, evq_len, evq_range1, evq_range3, evq_listOf, evq_min, evq_intOf, evq_call, evq_new, evq_append, evq_extend, evq_attr, evq_sub, evq_slice, evlq_nil, evlq_cons, getV, List.getElem?_cons_zero, List.getElem?_cons_succ, Option.map_some, Option.bind_some, c, hsl, List.length_nil, List.nil_append, List.length_cons, List.cons_append, lenV, hsl2, binq_0, binq_1, binq_2, binq_3, binq_4, binq_5, binq_6, binq_7, binq_8, binq_9, binq_10, binq_11, if_pos hlim, hc', List.set_cons_zero, List.set_cons_succ, s1]
  have hfm : c0.fmod 2 = 0 ∨ c0.fmod 2 = 1 := by
    rw [Int.fmod_eq_emod_of_nonneg _ (by omega)]; omega
  have hs0 : subV s1 (.ref 4) (.int 0) = some (.int c0) := rfl
  have hs1 : subV s1 (.ref 4) (.int 1) = some (.int c1) := rfl
  have h2 : ∀ k : Int, c0.fmod 2 = k → ex c (.set 2 (.bin (.Add) (.int 2) (.bin (.Mod) (.sub (.var 1) (.int 0)) (.int 2)))) [.scr, .ref 4, .undef, .undef, .undef, .undef, .undef, .undef, .undef, .undef, .undef, .undef, .undef, .undef, .undef, .undef, .undef, .undef] s1
      = some (.next, [.scr, .ref 4, .int (2 + k), .undef, .undef, .undef, .undef, .undef, .undef, .undef, .undef, .undef, .undef, .undef, .undef, .undef, .undef, .undef], s1) := by
    intro k hk
    simp only [exq_fail, exq_set, exq_setTup, exq_setTupR, exq_setItem, exq_setAttr, exq_augVar, exq_augItem, exq_expr, exq_ret, exq_ite, exq_for_, exq_whl, evq_fail, evq_int, evq_bool, evq_none, evq_var, evq_glob, evq_gtup, evq_bin, evq_un, evq_cmp, evq_ite, evq_notB, evq_andB, evq_orB, evq_truthy, evq_andV, evq_orV, evq_lst, evq_tup, evq_comp, evq_len, evq_range1, evq_range3, evq_listOf, evq_min, evq_intOf, evq_call, evq_new, evq_append, evq_extend, evq_attr, evq_sub, evq_slice, getV, List.getElem?_cons_zero, List.getElem?_cons_succ, Option.map_some, Option.bind_some, hs0, binq_0, binq_1, binq_2, binq_3, binq_4, binq_5, binq_6, binq_7, binq_8, binq_9, binq_10, binq_11, if_pos (show (2 : Int) ≠ 0 by omega), hk, List.set_cons_zero, List.set_cons_succ]
  have h3 : ∀ (f M : Int), (if (3 : Int).natAbs < 2 ^ 60 ∧ f.natAbs < 2 ^ 60 then some (V.int (3 * f), s1) else none) = some (V.int (3 * f), s1) → (if 0 ≤ 3 * f ∧ 3 * f ≤ 1000 ∧ (2 : Int).natAbs < 2 ^ 64 then some (V.int (2 ^ (3 * f).toNat), s1) else none) = some (V.int (M + 1), s1) → M ≠ 0 →
      ex c (.set 3 (.bin (.Add) (.int 1) (.bin (.Mod) (.sub (.var 1) (.int 1)) (.bin (.Sub) (.bin (.Pow) (.int 2) (.bin (.Mult) (.int 3) (.var 2))) (.int 1))))) [.scr, .ref 4, .int f, .undef, .undef, .undef, .undef, .undef, .undef, .undef, .undef, .undef, .undef, .undef, .undef, .undef, .undef, .undef] s1
      = some (.next, [.scr, .ref 4, .int f, .int (1 + c1.fmod M), .undef, .undef, .undef, .undef, .undef, .undef, .undef, .undef, .undef, .undef, .undef, .undef, .undef, .undef], s1) := by
    intro f M e1 e2 hM
    have e3 : M + 1 - 1 = M := by omega
    simp only [exq_fail, exq_set, exq_setTup, exq_setTupR, exq_setItem, exq_setAttr, exq_augVar, exq_augItem, exq_expr, exq_ret, exq_ite, exq_for_, exq_whl, evq_fail, evq_int, evq_bool, evq_none, evq_var, evq_glob, evq_gtup, evq_bin, evq_un, evq_cmp, evq_ite, evq_notB, evq_andB, evq_orB, evq_truthy, evq_andV, evq_orV, evq_lst, evq_tup, evq_comp, evq_len, evq_range1, evq_range3, evq_listOf, evq_min, evq_intOf, evq_call, evq_new, evq_append, evq_extend, evq_attr, evq_sub, evq_slice, getV, List.getElem?_cons_zero, List.getElem?_cons_succ, Option.map_some, Option.bind_some, hs1, binq_0, binq_1, binq_2, binq_3, binq_4, binq_5, binq_6, binq_7, binq_8, binq_9, binq_10, binq_11, e1, e2, e3, if_pos hM, List.set_cons_zero, List.set_cons_succ]
  have h4 : ∀ (f x y : Int), y = (if x = 511 then 495 else x) → ex c (.ite (.cmp (.Eq) (.var 3) (.int 511)) [.set 3 (.int 495)] []) [.scr, .ref 4, .int f, .int x, .undef, .undef, .undef, .undef, .undef, .undef, .undef, .undef, .undef, .undef, .undef, .undef, .undef, .undef] s1
      = some (.next, [.scr, .ref 4, .int f, .int y, .undef, .undef, .undef, .undef, .undef, .undef, .undef, .undef, .undef, .undef, .undef, .undef, .undef, .undef], s1) := by
    intro f x y hy
    subst hy
    by_cases hx : x = 511
    · subst hx
      rfl
    · have : (x == 511) = false := by simpa using hx
      simp only [exq_fail, exq_set, exq_setTup, exq_setTupR, exq_setItem, exq_setAttr, exq_augVar, exq_augItem, exq_expr, exq_ret, exq_ite, exq_for_, exq_whl, evq_fail, evq_int, evq_bool, evq_none, evq_var, evq_glob, evq_gtup, evq_bin, evq_un, evq_cmp, evq_ite, evq_notB, evq_andB, evq_orB, evq_truthy, evq_andV, evq_orV, evq_lst, evq_tup, evq_comp, evq_len, evq_range1, evq_range3, evq_listOf, evq_min, evq_intOf, evq_call, evq_new, evq_append, evq_extend, evq_attr, evq_sub, evq_slice, getV, List.getElem?_cons_zero, List.getElem?_cons_succ, Option.map_some, Option.bind_some, cmpq_0, cmpq_1, cmpq_2, cmpq_3, cmpq_4, cmpq_5, cmpq_6, cmpq_7, cmpq_8, cmpq_9, this, exsq_nil, exsq_cons, if_neg hx]
  rcases hfm with hk | hk
  · have hm : 0 ≤ c1.fmod 63 ∧ c1.fmod 63 < 63 := by
      rw [Int.fmod_eq_emod_of_nonneg _ (by omega)]; omega
    refine ⟨(.lst t2), (.lst [.int 1, .int 123]), (.lst t2), (.lst (([V.int 1, V.int 123]).drop t2.length)), (.lst [.int c0, .int c1]), 2, (1 + c1.fmod 63).toNat, .inl ⟨rfl, by omega, by omega⟩, ?_⟩
    have hcast : (((1 + c1.fmod 63).toNat : Nat) : Int) = 1 + c1.fmod 63 := by omega
    rw [hcast]
    refine exs_cons h1 (exs_cons (h2 0 hk) (exs_cons (h3 2 63 (if_pos (by decide)) (by rw [if_pos (by decide)]; rfl) (by decide)) (exs_cons (h4 2 _ _ (if_neg (by omega)).symm) (exs_cons ?_ exs_nil))))
    rw [if_pos (rfl : 2 = 2)]
    exact call_set (call_args _ rfl) (geo2 (.lst t2) (.lst [.int 1, .int 123]) (.lst t2) (.lst (([V.int 1, V.int 123]).drop t2.length)) (.lst [.int c0, .int c1]) scr)
  · have hm : 0 ≤ c1.fmod 511 ∧ c1.fmod 511 < 511 := by
      rw [Int.fmod_eq_emod_of_nonneg _ (by omega)]; omega
    refine ⟨(.lst t2), (.lst [.int 1, .int 123]), (.lst t2), (.lst (([V.int 1, V.int 123]).drop t2.length)), (.lst [.int c0, .int c1]), 3, (if 1 + c1.fmod 511 = 511 then 495 else 1 + c1.fmod 511).toNat, .inr ⟨rfl, by split <;> omega, by split <;> omega⟩, ?_⟩
    have hcast : (((if 1 + c1.fmod 511 = 511 then 495 else 1 + c1.fmod 511).toNat : Nat) : Int) = (if 1 + c1.fmod 511 = 511 then 495 else 1 + c1.fmod 511) := by
      split <;> omega
    rw [hcast]
    refine exs_cons h1 (exs_cons (h2 1 hk) (exs_cons (h3 3 511 (if_pos (by decide)) (by rw [if_pos (by decide)]; rfl) (by decide)) (exs_cons (h4 3 _ _ rfl) (exs_cons ?_ exs_nil))))
    rw [if_neg (by decide : ¬ 3 = 2)]
    exact call_set (call_args _ rfl) (geo3 (.lst t2) (.lst [.int 1, .int 123]) (.lst t2) (.lst (([V.int 1, V.int 123]).drop t2.length)) (.lst [.int c0, .int c1]) scr)

theorem sq_pos2 : ∀ m : Nat, m < 64 → 1 ≤ m → 0 < (sqOf 2 m).length := by decide +kernel
theorem sq_pos3 : ∀ m : Nat, m < 511 → 1 ≤ m → 0 < (sqOf 3 m).length := by decide +kernel
noncomputable def kl2 : List Int := [14, 13, 59, 55, 44, 28]
noncomputable def kl3 : List Int := [26, 61, 50, 211, 495, 406, 152, 376, 176]
theorem adj2 : ∀ s, s < 6 → ((kl2.getD s 0).natAbs < 2 ^ 64 ∧ ∀ t, t < 6 → (Builtin.bitAnd ((Builtin.bitOr (kl2.getD s 0) (1 * 2 ^ s)).fdiv (2 ^ t)) 1 == 1) = adj 2 s t) := by decide +kernel
theorem adj3 : ∀ s, s < 9 → ((kl3.getD s 0).natAbs < 2 ^ 64 ∧ ∀ t, t < 9 → (Builtin.bitAnd ((Builtin.bitOr (kl3.getD s 0) (1 * 2 ^ s)).fdiv (2 ^ t)) 1 == 1) = adj 3 s t) := by decide +kernel

theorem law_run (scr : List Int) : ∃ st', run myFns 2000 scr theTups 6 13 [.scr] [] = some (.bool true, st') := by
  obtain ⟨o0, o1, o2, o3, o4, files, m, hfm, hhead⟩ := law_head scr 5 rfl
  have hrest : ∃ fr' st', exs ⟨2000, run myFns 2000 scr theTups 5, scr, theTups⟩ restB [.scr, .ref 4, .int (files : Nat), .int (m : Nat), .ref 6, .undef, .undef, .undef, .undef, .undef, .undef, .undef, .undef, .undef, .undef, .undef, .undef, .undef] ([o0, o1, o2, o3, o4] ++ (if files = 2 then geoSt2 else geoSt3)) = some (.ret (.bool true), fr', st') := by
    rcases hfm with ⟨rfl, h1, h2⟩ | ⟨rfl, h1, h2⟩
    · refine law_rest scr (dd := 5) (k := 20) (kl := kl2) (.inl rfl) (by omega) (sq_pos2 m h2 h1) rfl rfl rfl rfl (fun s hs => ?_) (check2 h1 h2)
      obtain ⟨g1, g2⟩ := adj2 s hs
      have : kl2[s]? = some (kl2.getD s 0) := by
        have hl : s < kl2.length := hs
        simp [hl]
      exact ⟨_, this, g1, g2⟩
    · refine law_rest scr (dd := 5) (k := 20) (kl := kl3) (.inr rfl) (by omega) (sq_pos3 m h2 h1) rfl rfl rfl rfl (fun s hs => ?_) (check3 h1 h2)
      obtain ⟨g1, g2⟩ := adj3 s hs
      have : kl3[s]? = some (kl3.getD s 0) := by
        have hl : s < kl3.length := hs
        simp [hl]
      exact ⟨_, this, g1, g2⟩
  obtain ⟨fr', st', hr⟩ := hrest
  refine ⟨st', run_of (fn := ⟨1, 17, lawB⟩) rfl rfl (fr := fr') ?_⟩
  show exs ⟨2000, run myFns 2000 scr theTups 5, scr, theTups⟩ lawB _ [] = _
  rw [law_split]
  exact exs_app hhead hr

theorem law_pure (scr : List Int) (_ : scr.length ≤ 63) : ∃ N st', run theFns N scr theTups 6 13 [.scr] [] = some (.bool true, st') := by
  rw [fns_eq]
  obtain ⟨st', h⟩ := law_run scr
  exact ⟨2000, st', h⟩
end Mine

-- the head
/-! The head: the module's body run at once by the kernel, with the part of the heap that the proof wants (heapK). -/
set_option Elab.async false
set_option maxRecDepth 100000
set_option maxHeartbeats 8000000
namespace Mine
open PySem PySem.W PyProof.Rows
noncomputable def defS : List Stmt → Def
  | .FunctionDef _ a b _ _ _ sc _ _ _ :: _ => ⟨a, b, sc⟩
  | _ :: r => defS r
  | [] => ⟨⟨[], [], none, [], [], none, []⟩, [], default⟩
noncomputable def defC : List Stmt → Def
  | .ClassDef _ _ _ b _ _ _ _ _ _ _ :: _ => defS b
  | _ => ⟨⟨[], [], none, [], [], none, []⟩, [], default⟩
noncomputable def fobj (d : Def) (x q : Str) (mod code : Value) : Obj :=
  ⟨.type "function", none, .func (FuncData.mk x q d.params (.stmts d.body) d.scope 3 [] .none .none .none mod none code .none 0), #[]⟩
noncomputable def emptyTup : Obj := ⟨.type "tuple", none, .seq #[], #[]⟩
noncomputable def heapK : Params → Frag := fun P =>
  (nat_lit 3, Obj.mk (Value.type "dict") none (Data.dict #[DictEntry.mk (PyData.keyHash P (Str.ofString "__name__")) (Value.str (Str.ofString "__name__") 165) (Value.str (Str.ofString "law_tg0012_01") 397), DictEntry.mk (PyData.keyHash P (Str.ofString "__doc__")) (Value.str (Str.ofString "__doc__") 166) Value.none, DictEntry.mk (PyData.keyHash P (Str.ofString "__package__")) (Value.str (Str.ofString "__package__") 167) Value.none, DictEntry.mk (PyData.keyHash P (Str.ofString "__loader__")) (Value.str (Str.ofString "__loader__") 168) (Value.builtin "__main__.__loader__#opaque"), DictEntry.mk (PyData.keyHash P (Str.ofString "__spec__")) (Value.str (Str.ofString "__spec__") 169) Value.none, DictEntry.mk (PyData.keyHash P (Str.ofString "__annotations__")) (Value.str (Str.ofString "__annotations__") 170) (Value.ref 6), DictEntry.mk (PyData.keyHash P (Str.ofString "__builtins__")) (Value.str (Str.ofString "__builtins__") 171) (Value.ref 4), DictEntry.mk (PyData.keyHash P (Str.ofString "__file__")) (Value.str (Str.ofString "__file__") 173) (Value.str (Str.ofString "/claim/cut.py") 172), DictEntry.mk (PyData.keyHash P (Str.ofString "__cached__")) (Value.str (Str.ofString "__cached__") 174) Value.none, DictEntry.mk (PyData.keyHash P (Str.ofString "NO_MATE")) (Value.str (Str.ofString "NO_MATE") 191) (Value.int (-1) 190), DictEntry.mk (PyData.keyHash P (Str.ofString "OUTSIDE")) (Value.str (Str.ofString "OUTSIDE") 194) (Value.int (-1) 193), DictEntry.mk (PyData.keyHash P (Str.ofString "STRONG_MOVES")) (Value.str (Str.ofString "STRONG_MOVES") 196) (Value.int 0 195), DictEntry.mk (PyData.keyHash P (Str.ofString "WEAK_MOVES")) (Value.str (Str.ofString "WEAK_MOVES") 198) (Value.int 1 197), DictEntry.mk (PyData.keyHash P (Str.ofString "solve")) (Value.str (Str.ofString "solve") 204) (Value.ref 19), DictEntry.mk (PyData.keyHash P (Str.ofString "ChessError")) (Value.str (Str.ofString "ChessError") 235) (Value.ref 36), DictEntry.mk (PyData.keyHash P (Str.ofString "STEP_FILES")) (Value.str (Str.ofString "STEP_FILES") 249) (Value.ref 40), DictEntry.mk (PyData.keyHash P (Str.ofString "STEP_RANKS")) (Value.str (Str.ofString "STEP_RANKS") 261) (Value.ref 41), DictEntry.mk (PyData.keyHash P (Str.ofString "Geometry")) (Value.str (Str.ofString "Geometry") 306) (Value.ref 58), DictEntry.mk (PyData.keyHash P (Str.ofString "is_growing")) (Value.str (Str.ofString "is_growing") 313) (Value.ref 69), DictEntry.mk (PyData.keyHash P (Str.ofString "add_masks")) (Value.str (Str.ofString "add_masks") 324) (Value.ref 76), DictEntry.mk (PyData.keyHash P (Str.ofString "inner_squares")) (Value.str (Str.ofString "inner_squares") 333) (Value.ref 83), DictEntry.mk (PyData.keyHash P (Str.ofString "add_rays")) (Value.str (Str.ofString "add_rays") 347) (Value.ref 90), DictEntry.mk (PyData.keyHash P (Str.ofString "add_pawns")) (Value.str (Str.ofString "add_pawns") 355) (Value.ref 97), DictEntry.mk (PyData.keyHash P (Str.ofString "add_knights")) (Value.str (Str.ofString "add_knights") 372) (Value.ref 104), DictEntry.mk (PyData.keyHash P (Str.ofString "add_castles")) (Value.str (Str.ofString "add_castles") 385) (Value.ref 111), DictEntry.mk (PyData.keyHash P (Str.ofString "make_geometry")) (Value.str (Str.ofString "make_geometry") 396) (Value.ref 118), DictEntry.mk (PyData.keyHash P (Str.ofString "_law_near")) (Value.str (Str.ofString "_law_near") 404) (Value.ref 123), DictEntry.mk (PyData.keyHash P (Str.ofString "_law_folds")) (Value.str (Str.ofString "_law_folds") 410) (Value.ref 128), DictEntry.mk (PyData.keyHash P (Str.ofString "_law_is_whole")) (Value.str (Str.ofString "_law_is_whole") 416) (Value.ref 133), DictEntry.mk (PyData.keyHash P (Str.ofString "law")) (Value.str (Str.ofString "law") 422) (Value.ref 138)] 30) #[]) ::
   (nat_lit 6, Obj.mk (Value.type "dict") none (Data.dict #[]) #[]) ::
   (nat_lit 15, emptyTup) ::
   (nat_lit 18, Obj.mk (Value.type "code") none (Data.fields #[Value.str (Str.ofString "solve") 199, Value.str (Str.ofString "solve") 200, Value.str (Str.ofString "/claim/cut.py") 201, Value.int 6 0, Value.int 3 0, Value.int 0 0, Value.int 0 0, Value.int 3 0, Value.ref 15, Value.bool true, Value.int 181 0, Value.ref 16, Value.none, Value.none, Value.none, Value.ref 17, Value.int 202 0, Value.int 6 0, Value.str (Str.ofString "/claim/cut.py") 203]) #[]) ::
   (nat_lit 19, fobj (defS (PySem.Challenge.pw_tg0012_01.main.body.drop 5)) (Str.ofString "solve") (Str.ofString "solve") (Value.str (Str.ofString "chess.retro") 187) (Value.ref 18)) ::
   (nat_lit 40, Obj.mk (Value.type "tuple") none (Data.seq #[Value.int 0 238, Value.int 1 239, Value.int 0 240, Value.int (-1) 242, Value.int 1 243, Value.int 1 244, Value.int (-1) 246, Value.int (-1) 248]) #[]) ::
   (nat_lit 41, Obj.mk (Value.type "tuple") none (Data.seq #[Value.int 1 250, Value.int 0 251, Value.int (-1) 253, Value.int 0 254, Value.int 1 255, Value.int (-1) 257, Value.int (-1) 259, Value.int 1 260]) #[]) ::
   (nat_lit 49, emptyTup) ::
   (nat_lit 51, Obj.mk (Value.type "tuple") none (Data.seq #[Value.str (Str.ofString "self") 277, Value.str (Str.ofString "files") 278, Value.str (Str.ofString "ranks") 279, Value.str (Str.ofString "has_double") 280, Value.str (Str.ofString "has_castling") 281]) #[]) ::
   (nat_lit 52, emptyTup) ::
   (nat_lit 54, Obj.mk (Value.type "code") none (Data.fields #[Value.str (Str.ofString "__init__") 274, Value.str (Str.ofString "Geometry.__init__") 275, Value.str (Str.ofString "/claim/cut.py") 276, Value.int 40 0, Value.int 5 0, Value.int 0 0, Value.int 0 0, Value.int 3 0, Value.ref 49, Value.bool true, Value.int 181 0, Value.ref 50, Value.none, Value.ref 51, Value.ref 52, Value.ref 53, Value.int 282 0, Value.int 40 0, Value.str (Str.ofString "/claim/cut.py") 283]) #[]) ::
   (nat_lit 55, fobj (defC (PySem.Challenge.pw_tg0012_01.main.body.drop 11)) (Str.ofString "__init__") (Str.ofString "Geometry.__init__") (Value.str (Str.ofString "chess.geometry") 236) (Value.ref 54)) ::
   (nat_lit 56, Obj.mk (Value.type "tuple") none (Data.seq #[Value.str (Str.ofString "castles") 285, Value.str (Str.ofString "file_masks") 286, Value.str (Str.ofString "files") 287, Value.str (Str.ofString "full") 288, Value.str (Str.ofString "has_castling") 289, Value.str (Str.ofString "has_double") 290, Value.str (Str.ofString "king") 291, Value.str (Str.ofString "knight") 292, Value.str (Str.ofString "pawn") 293, Value.str (Str.ofString "rank_masks") 294, Value.str (Str.ofString "ranks") 295, Value.str (Str.ofString "rays") 296, Value.str (Str.ofString "rights_lost") 297, Value.str (Str.ofString "size") 298]) #[]) ::
   (nat_lit 57, Obj.mk (Value.type "dict") none (Data.dict #[DictEntry.mk (PyData.keyHash P (Str.ofString "__module__")) (Value.str (Str.ofString "__module__") 269) (Value.str (Str.ofString "chess.geometry") 236), DictEntry.mk (PyData.keyHash P (Str.ofString "__firstlineno__")) (Value.str (Str.ofString "__firstlineno__") 273) (Value.int 38 272), DictEntry.mk (PyData.keyHash P (Str.ofString "__init__")) (Value.str (Str.ofString "__init__") 284) (Value.ref 55), DictEntry.mk (PyData.keyHash P (Str.ofString "__static_attributes__")) (Value.str (Str.ofString "__static_attributes__") 299) (Value.ref 56), DictEntry.mk (PyData.keyHash P (Str.ofString "__dict__")) (Value.str (Str.ofString "__dict__") 301) (Value.ref 59), DictEntry.mk (PyData.keyHash P (Str.ofString "__weakref__")) (Value.str (Str.ofString "__weakref__") 303) (Value.ref 60), DictEntry.mk (PyData.keyHash P (Str.ofString "__doc__")) (Value.str (Str.ofString "__doc__") 304) Value.none] 4) #[]) ::
   (nat_lit 58, Obj.mk (Value.type "type") none (Data.cls (ClassData.mk (Str.ofString "Geometry") [Value.type "object"] [Value.ref 58, Value.type "object"] 57 (Str.ofString "Geometry") true [] [] false none false)) #[none, none, Option.some (Value.str (Str.ofString "Geometry") 262), Option.some (Value.str (Str.ofString "Geometry") 270), Option.some (Value.builtin "object.__new__"), Option.some (Value.bool true)]) ::
   (nat_lit 59, Obj.mk (Value.type "getset_descriptor") none (Data.fields #[Value.str (Str.ofString "__dict__") 300, Value.ref 58, Value.builtin "function.__dict__", Value.builtin "function.__dict__#set"]) #[]) ::
   (nat_lit 60, Obj.mk (Value.type "getset_descriptor") none (Data.fields #[Value.str (Str.ofString "__weakref__") 302, Value.ref 58, Value.builtin "ExceptionGroup.__weakref__", Value.none]) #[]) ::
   (nat_lit 63, emptyTup) ::
   (nat_lit 65, Obj.mk (Value.type "tuple") none (Data.seq #[Value.str (Str.ofString "d") 310]) #[]) ::
   (nat_lit 66, emptyTup) ::
   (nat_lit 68, Obj.mk (Value.type "code") none (Data.fields #[Value.str (Str.ofString "is_growing") 307, Value.str (Str.ofString "is_growing") 308, Value.str (Str.ofString "/claim/cut.py") 309, Value.int 55 0, Value.int 1 0, Value.int 0 0, Value.int 0 0, Value.int 3 0, Value.ref 63, Value.bool true, Value.int 181 0, Value.ref 64, Value.none, Value.ref 65, Value.ref 66, Value.ref 67, Value.int 311 0, Value.int 55 0, Value.str (Str.ofString "/claim/cut.py") 312]) #[]) ::
   (nat_lit 69, fobj (defS (PySem.Challenge.pw_tg0012_01.main.body.drop 12)) (Str.ofString "is_growing") (Str.ofString "is_growing") (Value.str (Str.ofString "chess.geometry") 236) (Value.ref 68)) ::
   (nat_lit 70, emptyTup) ::
   (nat_lit 72, Obj.mk (Value.type "tuple") none (Data.seq #[Value.str (Str.ofString "geo") 317, Value.str (Str.ofString "row") 318, Value.str (Str.ofString "column") 319, Value.str (Str.ofString "r") 320, Value.str (Str.ofString "f") 321]) #[]) ::
   (nat_lit 73, emptyTup) ::
   (nat_lit 75, Obj.mk (Value.type "code") none (Data.fields #[Value.str (Str.ofString "add_masks") 314, Value.str (Str.ofString "add_masks") 315, Value.str (Str.ofString "/claim/cut.py") 316, Value.int 57 0, Value.int 1 0, Value.int 0 0, Value.int 0 0, Value.int 3 0, Value.ref 70, Value.bool true, Value.int 181 0, Value.ref 71, Value.none, Value.ref 72, Value.ref 73, Value.ref 74, Value.int 322 0, Value.int 57 0, Value.str (Str.ofString "/claim/cut.py") 323]) #[]) ::
   (nat_lit 76, fobj (defS (PySem.Challenge.pw_tg0012_01.main.body.drop 13)) (Str.ofString "add_masks") (Str.ofString "add_masks") (Value.str (Str.ofString "chess.geometry") 236) (Value.ref 75)) ::
   (nat_lit 77, emptyTup) ::
   (nat_lit 79, Obj.mk (Value.type "tuple") none (Data.seq #[Value.str (Str.ofString "geo") 328, Value.str (Str.ofString "d") 329, Value.str (Str.ofString "edge") 330]) #[]) ::
   (nat_lit 80, emptyTup) ::
   (nat_lit 82, Obj.mk (Value.type "code") none (Data.fields #[Value.str (Str.ofString "inner_squares") 325, Value.str (Str.ofString "inner_squares") 326, Value.str (Str.ofString "/claim/cut.py") 327, Value.int 65 0, Value.int 2 0, Value.int 0 0, Value.int 0 0, Value.int 3 0, Value.ref 77, Value.bool true, Value.int 181 0, Value.ref 78, Value.none, Value.ref 79, Value.ref 80, Value.ref 81, Value.int 331 0, Value.int 65 0, Value.str (Str.ofString "/claim/cut.py") 332]) #[]) ::
   (nat_lit 83, fobj (defS (PySem.Challenge.pw_tg0012_01.main.body.drop 14)) (Str.ofString "inner_squares") (Str.ofString "inner_squares") (Value.str (Str.ofString "chess.geometry") 236) (Value.ref 82)) ::
   (nat_lit 84, emptyTup) ::
   (nat_lit 86, Obj.mk (Value.type "tuple") none (Data.seq #[Value.str (Str.ofString "geo") 337, Value.str (Str.ofString "d") 338, Value.str (Str.ofString "inner") 339, Value.str (Str.ofString "delta") 340, Value.str (Str.ofString "ray") 341, Value.str (Str.ofString "order") 342, Value.str (Str.ofString "square") 343, Value.str (Str.ofString "goal") 344]) #[]) ::
   (nat_lit 87, emptyTup) ::
   (nat_lit 89, Obj.mk (Value.type "code") none (Data.fields #[Value.str (Str.ofString "add_rays") 334, Value.str (Str.ofString "add_rays") 335, Value.str (Str.ofString "/claim/cut.py") 336, Value.int 76 0, Value.int 1 0, Value.int 0 0, Value.int 0 0, Value.int 3 0, Value.ref 84, Value.bool true, Value.int 181 0, Value.ref 85, Value.none, Value.ref 86, Value.ref 87, Value.ref 88, Value.int 345 0, Value.int 76 0, Value.str (Str.ofString "/claim/cut.py") 346]) #[]) ::
   (nat_lit 90, fobj (defS (PySem.Challenge.pw_tg0012_01.main.body.drop 15)) (Str.ofString "add_rays") (Str.ofString "add_rays") (Value.str (Str.ofString "chess.geometry") 236) (Value.ref 89)) ::
   (nat_lit 91, emptyTup) ::
   (nat_lit 93, Obj.mk (Value.type "tuple") none (Data.seq #[Value.str (Str.ofString "geo") 351, Value.str (Str.ofString "square") 352]) #[]) ::
   (nat_lit 94, emptyTup) ::
   (nat_lit 96, Obj.mk (Value.type "code") none (Data.fields #[Value.str (Str.ofString "add_pawns") 348, Value.str (Str.ofString "add_pawns") 349, Value.str (Str.ofString "/claim/cut.py") 350, Value.int 91 0, Value.int 1 0, Value.int 0 0, Value.int 0 0, Value.int 3 0, Value.ref 91, Value.bool true, Value.int 181 0, Value.ref 92, Value.none, Value.ref 93, Value.ref 94, Value.ref 95, Value.int 353 0, Value.int 91 0, Value.str (Str.ofString "/claim/cut.py") 354]) #[]) ::
   (nat_lit 97, fobj (defS (PySem.Challenge.pw_tg0012_01.main.body.drop 16)) (Str.ofString "add_pawns") (Str.ofString "add_pawns") (Value.str (Str.ofString "chess.geometry") 236) (Value.ref 96)) ::
   (nat_lit 98, emptyTup) ::
   (nat_lit 100, Obj.mk (Value.type "tuple") none (Data.seq #[Value.str (Str.ofString "geo") 359, Value.str (Str.ofString "files") 360, Value.str (Str.ofString "not_first") 361, Value.str (Str.ofString "not_last") 362, Value.str (Str.ofString "not_first_two") 363, Value.str (Str.ofString "not_last_two") 364, Value.str (Str.ofString "square") 365, Value.str (Str.ofString "b") 366, Value.str (Str.ofString "near") 367, Value.str (Str.ofString "far") 368, Value.str (Str.ofString "found") 369]) #[]) ::
   (nat_lit 101, emptyTup) ::
   (nat_lit 103, Obj.mk (Value.type "code") none (Data.fields #[Value.str (Str.ofString "add_knights") 356, Value.str (Str.ofString "add_knights") 357, Value.str (Str.ofString "/claim/cut.py") 358, Value.int 95 0, Value.int 1 0, Value.int 0 0, Value.int 0 0, Value.int 3 0, Value.ref 98, Value.bool true, Value.int 181 0, Value.ref 99, Value.none, Value.ref 100, Value.ref 101, Value.ref 102, Value.int 370 0, Value.int 95 0, Value.str (Str.ofString "/claim/cut.py") 371]) #[]) ::
   (nat_lit 104, fobj (defS (PySem.Challenge.pw_tg0012_01.main.body.drop 17)) (Str.ofString "add_knights") (Str.ofString "add_knights") (Value.str (Str.ofString "chess.geometry") 236) (Value.ref 103)) ::
   (nat_lit 105, emptyTup) ::
   (nat_lit 107, Obj.mk (Value.type "tuple") none (Data.seq #[Value.str (Str.ofString "geo") 376, Value.str (Str.ofString "start") 377, Value.str (Str.ofString "index") 378, Value.str (Str.ofString "base") 379, Value.str (Str.ofString "corner") 380, Value.str (Str.ofString "way") 381, Value.str (Str.ofString "goal") 382]) #[]) ::
   (nat_lit 108, emptyTup) ::
   (nat_lit 110, Obj.mk (Value.type "code") none (Data.fields #[Value.str (Str.ofString "add_castles") 373, Value.str (Str.ofString "add_castles") 374, Value.str (Str.ofString "/claim/cut.py") 375, Value.int 107 0, Value.int 1 0, Value.int 0 0, Value.int 0 0, Value.int 3 0, Value.ref 105, Value.bool true, Value.int 181 0, Value.ref 106, Value.none, Value.ref 107, Value.ref 108, Value.ref 109, Value.int 383 0, Value.int 107 0, Value.str (Str.ofString "/claim/cut.py") 384]) #[]) ::
   (nat_lit 111, fobj (defS (PySem.Challenge.pw_tg0012_01.main.body.drop 18)) (Str.ofString "add_castles") (Str.ofString "add_castles") (Value.str (Str.ofString "chess.geometry") 236) (Value.ref 110)) ::
   (nat_lit 112, emptyTup) ::
   (nat_lit 114, Obj.mk (Value.type "tuple") none (Data.seq #[Value.str (Str.ofString "files") 389, Value.str (Str.ofString "ranks") 390, Value.str (Str.ofString "has_double") 391, Value.str (Str.ofString "has_castling") 392, Value.str (Str.ofString "geo") 393]) #[]) ::
   (nat_lit 115, emptyTup) ::
   (nat_lit 117, Obj.mk (Value.type "code") none (Data.fields #[Value.str (Str.ofString "make_geometry") 386, Value.str (Str.ofString "make_geometry") 387, Value.str (Str.ofString "/claim/cut.py") 388, Value.int 124 0, Value.int 4 0, Value.int 0 0, Value.int 0 0, Value.int 3 0, Value.ref 112, Value.bool true, Value.int 181 0, Value.ref 113, Value.none, Value.ref 114, Value.ref 115, Value.ref 116, Value.int 394 0, Value.int 124 0, Value.str (Str.ofString "/claim/cut.py") 395]) #[]) ::
   (nat_lit 118, fobj (defS (PySem.Challenge.pw_tg0012_01.main.body.drop 19)) (Str.ofString "make_geometry") (Str.ofString "make_geometry") (Value.str (Str.ofString "chess.geometry") 236) (Value.ref 117)) ::
   (nat_lit 119, emptyTup) ::
   (nat_lit 122, Obj.mk (Value.type "code") none (Data.fields #[Value.str (Str.ofString "_law_near") 399, Value.str (Str.ofString "_law_near") 400, Value.str (Str.ofString "/claim/cut.py") 401, Value.int 135 0, Value.int 2 0, Value.int 0 0, Value.int 0 0, Value.int 3 0, Value.ref 119, Value.bool true, Value.int 181 0, Value.ref 120, Value.none, Value.none, Value.none, Value.ref 121, Value.int 402 0, Value.int 135 0, Value.str (Str.ofString "/claim/cut.py") 403]) #[]) ::
   (nat_lit 123, fobj (defS (PySem.Challenge.pw_tg0012_01.main.body.drop 21)) (Str.ofString "_law_near") (Str.ofString "_law_near") (Value.str (Str.ofString "law_tg0012_01") 397) (Value.ref 122)) ::
   (nat_lit 124, emptyTup) ::
   (nat_lit 127, Obj.mk (Value.type "code") none (Data.fields #[Value.str (Str.ofString "_law_folds") 405, Value.str (Str.ofString "_law_folds") 406, Value.str (Str.ofString "/claim/cut.py") 407, Value.int 141 0, Value.int 1 0, Value.int 0 0, Value.int 0 0, Value.int 3 0, Value.ref 124, Value.bool true, Value.int 181 0, Value.ref 125, Value.none, Value.none, Value.none, Value.ref 126, Value.int 408 0, Value.int 141 0, Value.str (Str.ofString "/claim/cut.py") 409]) #[]) ::
   (nat_lit 128, fobj (defS (PySem.Challenge.pw_tg0012_01.main.body.drop 22)) (Str.ofString "_law_folds") (Str.ofString "_law_folds") (Value.str (Str.ofString "law_tg0012_01") 397) (Value.ref 127)) ::
   (nat_lit 129, emptyTup) ::
   (nat_lit 132, Obj.mk (Value.type "code") none (Data.fields #[Value.str (Str.ofString "_law_is_whole") 411, Value.str (Str.ofString "_law_is_whole") 412, Value.str (Str.ofString "/claim/cut.py") 413, Value.int 153 0, Value.int 1 0, Value.int 0 0, Value.int 0 0, Value.int 3 0, Value.ref 129, Value.bool true, Value.int 181 0, Value.ref 130, Value.none, Value.none, Value.none, Value.ref 131, Value.int 414 0, Value.int 153 0, Value.str (Str.ofString "/claim/cut.py") 415]) #[]) ::
   (nat_lit 133, fobj (defS (PySem.Challenge.pw_tg0012_01.main.body.drop 23)) (Str.ofString "_law_is_whole") (Str.ofString "_law_is_whole") (Value.str (Str.ofString "law_tg0012_01") 397) (Value.ref 132)) ::
   (nat_lit 134, emptyTup) ::
   (nat_lit 137, Obj.mk (Value.type "code") none (Data.fields #[Value.str (Str.ofString "law") 417, Value.str (Str.ofString "law") 418, Value.str (Str.ofString "/claim/cut.py") 419, Value.int 158 0, Value.int 1 0, Value.int 0 0, Value.int 0 0, Value.int 3 0, Value.ref 134, Value.bool true, Value.int 181 0, Value.ref 135, Value.none, Value.none, Value.none, Value.ref 136, Value.int 420 0, Value.int 158 0, Value.str (Str.ofString "/claim/cut.py") 421]) #[]) ::
   (nat_lit 138, fobj (defS (PySem.Challenge.pw_tg0012_01.main.body.drop 24)) (Str.ofString "law") (Str.ofString "law") (Value.str (Str.ofString "law_tg0012_01") 397) (Value.ref 137)) :: []
noncomputable def addrsK : List Addr := 3 :: 6 :: 15 :: 18 :: 19 :: 40 :: 41 :: 49 :: 51 :: 52 :: 54 :: 55 :: 56 :: 57 :: 58 :: 59 :: 60 :: 63 :: 65 :: 66 :: 68 :: 69 :: 70 :: 72 :: 73 :: 75 :: 76 :: 77 :: 79 :: 80 :: 82 :: 83 :: 84 :: 86 :: 87 :: 89 :: 90 :: 91 :: 93 :: 94 :: 96 :: 97 :: 98 :: 100 :: 101 :: 103 :: 104 :: 105 :: 107 :: 108 :: 110 :: 111 :: 112 :: 114 :: 115 :: 117 :: 118 :: 119 :: 122 :: 123 :: 124 :: 127 :: 128 :: 129 :: 132 :: 133 :: 134 :: 137 :: 138 :: []
noncomputable def viewK : Program := view PySem.Challenge.pw_tg0012_01 [1, 2, 3, 4, 5, 7, 9, 10, 11, 12, 13, 14, 15, 16, 17, 18, 19, 21, 22, 23, 24]
noncomputable def lawD : DefRec := ⟨Str.ofString "law", (defS (PySem.Challenge.pw_tg0012_01.main.body.drop 24)).params, (defS (PySem.Challenge.pw_tg0012_01.main.body.drop 24)).body, (defS (PySem.Challenge.pw_tg0012_01.main.body.drop 24)).scope, ⟨158, 0, 186, 15⟩⟩
-- the library lays the program's quick twin here
theorem opens : (chainsOk viewK && opensWell PySem.Challenge.rw_tg0012_01.row.prog && (frees PySem.Challenge.rw_tg0012_01.row.toRowW && PySem.Challenge.rw_tg0012_01.row.within.isEmpty)) = true := by k_qdec
theorem left : LeftO PySem.Challenge.pw_tg0012_01 viewK [] (fun s => xlAt viewK [] s && recOk (RowW.records PySem.Challenge.rw_tg0012_01.row.toRowW) s) (kHook heapK addrsK (fun _ => rfl)).obs (kHook heapK addrsK (fun _ => rfl)).val 2146 := by
  intro w
  unfold openEnds fencedOpening topFrom openGood viewK
  delta kHook heapK
  rw [PySem.W.Fast.te10274390034422433532, PySem.W.Fast.te14289696077712309145, PySem.W.Fast.te1435165496053646825, PySem.W.Fast.te14082659384304107361, PySem.W.Fast.te14364793385576792824, PySem.W.Fast.te5923862056798008813, PySem.W.Fast.te4187177175401517315, PySem.W.Fast.te3247288618530077131, PySem.W.Fast.te821141287760084731, PySem.W.Fast.te15251956679741408914]
  kernel_rfl
theorem hd (call : WalkO viewK [] (XL viewK []) (kHook heapK addrsK (fun _ => rfl)).says PySem.Challenge.rw_tg0012_01.row.toRowW lawD [] fun f vs => call f vs) : PySem.Challenge.rw_tg0012_01.Holds := by
  w_on
  o_law
  refine holds_open (q := viewK) (loose := []) (Xt := fun s => xlAt viewK [] s && recOk (RowW.records PySem.Challenge.rw_tg0012_01.row.toRowW) s) (XP := XL viewK []) (Yf := (kHook heapK addrsK (fun _ => rfl)).obs) (Ya := (kHook heapK addrsK (fun _ => rfl)).val) (YP := (kHook heapK addrsK (fun _ => rfl)).says) (N := 2146) (d := lawD) (kwd := []) left (Hook.of (kHook heapK addrsK (fun _ => rfl))) (Hook.keeps (kHook heapK addrsK (fun _ => rfl))) (fun s e => xl_of s (Bool.and_eq_true_iff.mp e).1) XL.keeps (by kernel_rfl) (by kernel_rfl) (by kernel_rfl) (fun s e => recFacts_of (Bool.and_eq_true_iff.mp e).2) rfl (by assumption) opens ⟨rfl, rfl, rfl, rfl, rfl, by decide +kernel⟩ ?_ call
  w_witness2
end Mine

-- M17
namespace Mine
open PySem PySem.W PyProof.Rows
theorem top_of (law_pure : ∀ scr : List Int, scr.length ≤ 63 → ∃ N st', run theFns N scr theTups 6 13 [.scr] [] = some (.bool true, st')) : PySem.Challenge.rw_tg0012_01.Holds := hd (by
  k_fill
  intro w s₀ s₁ mg mb G Y fa o pm cd doc dV kV ho hd hcd hD hmg hg args vals as hpre hlay hrd hwl hlo
  have KX := kIn_of Y
  refine Ground.open G ?_
  intro TT BB DD TE TW
  wrow_args hpre hlay hrd hwl hlo
  all_goals (first | refine callC_kw (enter_call ?_) | refine enter_call ?_ | refine callC_kw (enter_callW ?_) | refine enter_callW ?_ | w_how)
  rename_i ns _ _ _ _ _ _ _ sc vs _ hL _ _ _ hI _ hlen _
  have hlen' : ns.length ≤ 63 := by omega
  clear hd hcd hD ho BB DD TE TW
  have n1 : mg (Str.ofString "is_growing") = some (.ref 69) := mg_of KX TT.g (by k_is)
  have n2 : mg (Str.ofString "add_masks") = some (.ref 76) := mg_of KX TT.g (by k_is)
  have n3 : mg (Str.ofString "inner_squares") = some (.ref 83) := mg_of KX TT.g (by k_is)
  have n4 : mg (Str.ofString "add_rays") = some (.ref 90) := mg_of KX TT.g (by k_is)
  have n5 : mg (Str.ofString "add_pawns") = some (.ref 97) := mg_of KX TT.g (by k_is)
  have n6 : mg (Str.ofString "add_knights") = some (.ref 104) := mg_of KX TT.g (by k_is)
  have n7 : mg (Str.ofString "add_castles") = some (.ref 111) := mg_of KX TT.g (by k_is)
  have n8 : mg (Str.ofString "make_geometry") = some (.ref 118) := mg_of KX TT.g (by k_is)
  have n9 : mg (Str.ofString "_law_near") = some (.ref 123) := mg_of KX TT.g (by k_is)
  have n10 : mg (Str.ofString "solve") = some (.ref 19) := mg_of KX TT.g (by k_is)
  have n11 : mg (Str.ofString "_law_folds") = some (.ref 128) := mg_of KX TT.g (by k_is)
  have n12 : mg (Str.ofString "_law_is_whole") = some (.ref 133) := mg_of KX TT.g (by k_is)
  have n13 : mg (Str.ofString "law") = some (.ref 138) := mg_of KX TT.g (by k_is)
  have hfa : fa = 138 := by
    have h1 : some (Value.ref fa) = some (.ref 138) := hmg.symm.trans n13
    cases h1; rfl
  subst hfa
  have ng : mg (Str.ofString "Geometry") = some (.ref 58) := mg_of KX TT.g (by k_is)
  have t0 : mg (Str.ofString "STEP_FILES") = some (.ref 40) := mg_of KX TT.g (by k_is)
  have t1 : mg (Str.ofString "STEP_RANKS") = some (.ref 41) := mg_of KX TT.g (by k_is)
  have g0 : ∃ t, mg (Str.ofString "NO_MATE") = some (.int (-1) t) := ⟨_, mg_of KX TT.g (by k_is)⟩
  have g1 : ∃ t, mg (Str.ofString "OUTSIDE") = some (.int (-1) t) := ⟨_, mg_of KX TT.g (by k_is)⟩
  have g2 : ∃ t, mg (Str.ofString "STRONG_MOVES") = some (.int (0) t) := ⟨_, mg_of KX TT.g (by k_is)⟩
  have g3 : ∃ t, mg (Str.ofString "WEAK_MOVES") = some (.int (1) t) := ⟨_, mg_of KX TT.g (by k_is)⟩
  have b0 : mg (Str.ofString "len") = none := mg_none_of KX TT.g (by k_is)
  have b1 : mg (Str.ofString "range") = none := mg_none_of KX TT.g (by k_is)
  have b2 : mg (Str.ofString "list") = none := mg_none_of KX TT.g (by k_is)
  have b3 : mg (Str.ofString "min") = none := mg_none_of KX TT.g (by k_is)
  have b4 : mg (Str.ofString "int") = none := mg_none_of KX TT.g (by k_is)
  have c0 : mb (Str.ofString "len") = some (.builtin "len") := (TT.builtins (Str.ofString "len") (by decide)).trans (by first | rfl | kernel_rfl)
  have c1 : mb (Str.ofString "range") = some (.type "range") := (TT.builtins (Str.ofString "range") (by decide)).trans (by first | rfl | kernel_rfl)
  have c2 : mb (Str.ofString "list") = some (.type "list") := (TT.builtins (Str.ofString "list") (by decide)).trans (by first | rfl | kernel_rfl)
  have c3 : mb (Str.ofString "min") = some (.builtin "min") := (TT.builtins (Str.ofString "min") (by decide)).trans (by first | rfl | kernel_rfl)
  have c4 : mb (Str.ofString "int") = some (.type "int") := (TT.builtins (Str.ofString "int") (by decide)).trans (by first | rfl | kernel_rfl)
  have o0 := KX 55 _ (by k_is)
  have o1 := KX 69 _ (by k_is)
  have o2 := KX 76 _ (by k_is)
  have o3 := KX 83 _ (by k_is)
  have o4 := KX 90 _ (by k_is)
  have o5 := KX 97 _ (by k_is)
  have o6 := KX 104 _ (by k_is)
  have o7 := KX 111 _ (by k_is)
  have o8 := KX 118 _ (by k_is)
  have o9 := KX 123 _ (by k_is)
  have o10 := KX 19 _ (by k_is)
  have o11 := KX 128 _ (by k_is)
  have o12 := KX 133 _ (by k_is)
  have o13 := KX 138 _ (by k_is)
  have u0 := KX 40 _ (by k_is)
  have u1 := KX 41 _ (by k_is)
  have r0 : s₁.heap.CodeRec (.ref 54) (Str.ofString "Geometry.__init__") := codeRec_of KX (by k_is)
  have r1 : s₁.heap.CodeRec (.ref 68) (Str.ofString "is_growing") := codeRec_of KX (by k_is)
  have r2 : s₁.heap.CodeRec (.ref 75) (Str.ofString "add_masks") := codeRec_of KX (by k_is)
  have r3 : s₁.heap.CodeRec (.ref 82) (Str.ofString "inner_squares") := codeRec_of KX (by k_is)
  have r4 : s₁.heap.CodeRec (.ref 89) (Str.ofString "add_rays") := codeRec_of KX (by k_is)
  have r5 : s₁.heap.CodeRec (.ref 96) (Str.ofString "add_pawns") := codeRec_of KX (by k_is)
  have r6 : s₁.heap.CodeRec (.ref 103) (Str.ofString "add_knights") := codeRec_of KX (by k_is)
  have r7 : s₁.heap.CodeRec (.ref 110) (Str.ofString "add_castles") := codeRec_of KX (by k_is)
  have r8 : s₁.heap.CodeRec (.ref 117) (Str.ofString "make_geometry") := codeRec_of KX (by k_is)
  have r9 : s₁.heap.CodeRec (.ref 122) (Str.ofString "_law_near") := codeRec_of KX (by k_is)
  have r10 : s₁.heap.CodeRec (.ref 18) (Str.ofString "solve") := codeRec_of KX (by k_is)
  have r11 : s₁.heap.CodeRec (.ref 127) (Str.ofString "_law_folds") := codeRec_of KX (by k_is)
  have r12 : s₁.heap.CodeRec (.ref 132) (Str.ofString "_law_is_whole") := codeRec_of KX (by k_is)
  have r13 : s₁.heap.CodeRec (.ref 137) (Str.ofString "law") := codeRec_of KX (by k_is)
  have k1 : ∀ h, Kept s₁.heap h → ∃ kk, (kk = Keeper.frame ∨ kk = Keeper.machine ∨ kk = Keeper.boundFrame) ∧ Looks (model PySem.Challenge.rw_tg0012_01.row.prog w) h (keeperOf (.ref 69)) kk := fun h hk => keeps_K (by k_is) h (Frag.In.keeps KX hk)
  have k2 : ∀ h, Kept s₁.heap h → ∃ kk, (kk = Keeper.frame ∨ kk = Keeper.machine ∨ kk = Keeper.boundFrame) ∧ Looks (model PySem.Challenge.rw_tg0012_01.row.prog w) h (keeperOf (.ref 76)) kk := fun h hk => keeps_K (by k_is) h (Frag.In.keeps KX hk)
  have k3 : ∀ h, Kept s₁.heap h → ∃ kk, (kk = Keeper.frame ∨ kk = Keeper.machine ∨ kk = Keeper.boundFrame) ∧ Looks (model PySem.Challenge.rw_tg0012_01.row.prog w) h (keeperOf (.ref 83)) kk := fun h hk => keeps_K (by k_is) h (Frag.In.keeps KX hk)
  have k4 : ∀ h, Kept s₁.heap h → ∃ kk, (kk = Keeper.frame ∨ kk = Keeper.machine ∨ kk = Keeper.boundFrame) ∧ Looks (model PySem.Challenge.rw_tg0012_01.row.prog w) h (keeperOf (.ref 90)) kk := fun h hk => keeps_K (by k_is) h (Frag.In.keeps KX hk)
  have k5 : ∀ h, Kept s₁.heap h → ∃ kk, (kk = Keeper.frame ∨ kk = Keeper.machine ∨ kk = Keeper.boundFrame) ∧ Looks (model PySem.Challenge.rw_tg0012_01.row.prog w) h (keeperOf (.ref 97)) kk := fun h hk => keeps_K (by k_is) h (Frag.In.keeps KX hk)
  have k6 : ∀ h, Kept s₁.heap h → ∃ kk, (kk = Keeper.frame ∨ kk = Keeper.machine ∨ kk = Keeper.boundFrame) ∧ Looks (model PySem.Challenge.rw_tg0012_01.row.prog w) h (keeperOf (.ref 104)) kk := fun h hk => keeps_K (by k_is) h (Frag.In.keeps KX hk)
  have k7 : ∀ h, Kept s₁.heap h → ∃ kk, (kk = Keeper.frame ∨ kk = Keeper.machine ∨ kk = Keeper.boundFrame) ∧ Looks (model PySem.Challenge.rw_tg0012_01.row.prog w) h (keeperOf (.ref 111)) kk := fun h hk => keeps_K (by k_is) h (Frag.In.keeps KX hk)
  have k8 : ∀ h, Kept s₁.heap h → ∃ kk, (kk = Keeper.frame ∨ kk = Keeper.machine ∨ kk = Keeper.boundFrame) ∧ Looks (model PySem.Challenge.rw_tg0012_01.row.prog w) h (keeperOf (.ref 118)) kk := fun h hk => keeps_K (by k_is) h (Frag.In.keeps KX hk)
  have k9 : ∀ h, Kept s₁.heap h → ∃ kk, (kk = Keeper.frame ∨ kk = Keeper.machine ∨ kk = Keeper.boundFrame) ∧ Looks (model PySem.Challenge.rw_tg0012_01.row.prog w) h (keeperOf (.ref 123)) kk := fun h hk => keeps_K (by k_is) h (Frag.In.keeps KX hk)
  have k10 : ∀ h, Kept s₁.heap h → ∃ kk, (kk = Keeper.frame ∨ kk = Keeper.machine ∨ kk = Keeper.boundFrame) ∧ Looks (model PySem.Challenge.rw_tg0012_01.row.prog w) h (keeperOf (.ref 19)) kk := fun h hk => keeps_K (by k_is) h (Frag.In.keeps KX hk)
  have k11 : ∀ h, Kept s₁.heap h → ∃ kk, (kk = Keeper.frame ∨ kk = Keeper.machine ∨ kk = Keeper.boundFrame) ∧ Looks (model PySem.Challenge.rw_tg0012_01.row.prog w) h (keeperOf (.ref 128)) kk := fun h hk => keeps_K (by k_is) h (Frag.In.keeps KX hk)
  have k12 : ∀ h, Kept s₁.heap h → ∃ kk, (kk = Keeper.frame ∨ kk = Keeper.machine ∨ kk = Keeper.boundFrame) ∧ Looks (model PySem.Challenge.rw_tg0012_01.row.prog w) h (keeperOf (.ref 133)) kk := fun h hk => keeps_K (by k_is) h (Frag.In.keeps KX hk)
  have k13 : ∀ h, Kept s₁.heap h → ∃ kk, (kk = Keeper.frame ∨ kk = Keeper.machine ∨ kk = Keeper.boundFrame) ∧ Looks (model PySem.Challenge.rw_tg0012_01.row.prog w) h (keeperOf (.ref 138)) kk := fun h hk => keeps_K (by k_is) h (Frag.In.keeps KX hk)
  have kC : ∀ h, Kept s₁.heap h → ∃ kk, (kk = Keeper.frame ∨ kk = Keeper.machine ∨ kk = Keeper.boundFrame) ∧ Looks (model PySem.Challenge.rw_tg0012_01.row.prog w) h (keeperOf (.ref 58)) kk := fun h hk => keeps_K (by k_is) h (Frag.In.keeps KX hk)
  have a0 : ∃ attr, findIn (heapK w.params) (.ref 58) (Str.ofString "files") = some attr ∧ noGet (heapK w.params) attr = true := ⟨_, by k_is, by k_is⟩
  have e0 : takerIn (heapK w.params) 58 (Str.ofString "files") = some none := by k_is
  have a1 : ∃ attr, findIn (heapK w.params) (.ref 58) (Str.ofString "ranks") = some attr ∧ noGet (heapK w.params) attr = true := ⟨_, by k_is, by k_is⟩
  have e1 : takerIn (heapK w.params) 58 (Str.ofString "ranks") = some none := by k_is
  have a2 : ∃ attr, findIn (heapK w.params) (.ref 58) (Str.ofString "size") = some attr ∧ noGet (heapK w.params) attr = true := ⟨_, by k_is, by k_is⟩
  have e2 : takerIn (heapK w.params) 58 (Str.ofString "size") = some none := by k_is
  have a3 : ∃ attr, findIn (heapK w.params) (.ref 58) (Str.ofString "full") = some attr ∧ noGet (heapK w.params) attr = true := ⟨_, by k_is, by k_is⟩
  have e3 : takerIn (heapK w.params) 58 (Str.ofString "full") = some none := by k_is
  have a4 : ∃ attr, findIn (heapK w.params) (.ref 58) (Str.ofString "has_double") = some attr ∧ noGet (heapK w.params) attr = true := ⟨_, by k_is, by k_is⟩
  have e4 : takerIn (heapK w.params) 58 (Str.ofString "has_double") = some none := by k_is
  have a5 : ∃ attr, findIn (heapK w.params) (.ref 58) (Str.ofString "has_castling") = some attr ∧ noGet (heapK w.params) attr = true := ⟨_, by k_is, by k_is⟩
  have e5 : takerIn (heapK w.params) 58 (Str.ofString "has_castling") = some none := by k_is
  have a6 : ∃ attr, findIn (heapK w.params) (.ref 58) (Str.ofString "file_masks") = some attr ∧ noGet (heapK w.params) attr = true := ⟨_, by k_is, by k_is⟩
  have e6 : takerIn (heapK w.params) 58 (Str.ofString "file_masks") = some none := by k_is
  have a7 : ∃ attr, findIn (heapK w.params) (.ref 58) (Str.ofString "rank_masks") = some attr ∧ noGet (heapK w.params) attr = true := ⟨_, by k_is, by k_is⟩
  have e7 : takerIn (heapK w.params) 58 (Str.ofString "rank_masks") = some none := by k_is
  have a8 : ∃ attr, findIn (heapK w.params) (.ref 58) (Str.ofString "rays") = some attr ∧ noGet (heapK w.params) attr = true := ⟨_, by k_is, by k_is⟩
  have e8 : takerIn (heapK w.params) 58 (Str.ofString "rays") = some none := by k_is
  have a9 : ∃ attr, findIn (heapK w.params) (.ref 58) (Str.ofString "king") = some attr ∧ noGet (heapK w.params) attr = true := ⟨_, by k_is, by k_is⟩
  have e9 : takerIn (heapK w.params) 58 (Str.ofString "king") = some none := by k_is
  have a10 : ∃ attr, findIn (heapK w.params) (.ref 58) (Str.ofString "knight") = some attr ∧ noGet (heapK w.params) attr = true := ⟨_, by k_is, by k_is⟩
  have e10 : takerIn (heapK w.params) 58 (Str.ofString "knight") = some none := by k_is
  have a11 : ∃ attr, findIn (heapK w.params) (.ref 58) (Str.ofString "pawn") = some attr ∧ noGet (heapK w.params) attr = true := ⟨_, by k_is, by k_is⟩
  have e11 : takerIn (heapK w.params) 58 (Str.ofString "pawn") = some none := by k_is
  have a12 : ∃ attr, findIn (heapK w.params) (.ref 58) (Str.ofString "castles") = some attr ∧ noGet (heapK w.params) attr = true := ⟨_, by k_is, by k_is⟩
  have e12 : takerIn (heapK w.params) 58 (Str.ofString "castles") = some none := by k_is
  have a13 : ∃ attr, findIn (heapK w.params) (.ref 58) (Str.ofString "rights_lost") = some attr ∧ noGet (heapK w.params) attr = true := ⟨_, by k_is, by k_is⟩
  have e13 : takerIn (heapK w.params) 58 (Str.ofString "rights_lost") = some none := by k_is
  have m1 : makesIn (heapK w.params) 58 = true := by k_is
  have m2 : findIn (heapK w.params) (.ref 58) "__init__" = some (some (.ref 55)) := by k_is
  have m3 : typeIn (heapK w.params) (.ref 55) = some (.type "function") := by k_is
  have m4 : plainGet (heapK w.params) 58 "x" = true := by k_is
  have m5 : hasDictIn (heapK w.params) 58 = true := by k_is
  have m6 : findIn (heapK w.params) (.ref 58) "__setattr__" = some (some (.builtin "object.__setattr__")) := by k_is
  have m7 : plainOver (heapK w.params) 58 = true := by k_is
  have S : StaOK PySem.Challenge.rw_tg0012_01.row.prog (Sta.mk w s₁.heap s₁ sc ns 58 faOf mg mb) := by
    refine { nolimit := Top.nolimit TT, nsg := TT.g, nsb := TT.b, gints := ?_, gfns := ?_, gcls := ng, gtups := ?_, bi := ?_, script := ⟨⟨vs, hL, hI⟩, hlen'⟩, keepF := ?_, keepC := kC, fns := ?_, mkI := ?_, getA := ?_, setA := ?_ }
    · intro x i h
      have hm : (x, i) ∈ theGlb.gints := lookup_mem h
      rcases List.mem_cons.mp hm with e | hm
      · cases e; exact g0
      rcases List.mem_cons.mp hm with e | hm
      · cases e; exact g1
      rcases List.mem_cons.mp hm with e | hm
      · cases e; exact g2
      rcases List.mem_cons.mp hm with e | hm
      · cases e; exact g3
      · cases hm
    · intro x k h
      have h' : theGlb.fns[k + 1]? = some x := idx_get h
      match k, h' with
      | 0, h' => (have e : some (Str.ofString "is_growing") = some x := h'; cases e; exact n1)
      | 1, h' => (have e : some (Str.ofString "add_masks") = some x := h'; cases e; exact n2)
      | 2, h' => (have e : some (Str.ofString "inner_squares") = some x := h'; cases e; exact n3)
      | 3, h' => (have e : some (Str.ofString "add_rays") = some x := h'; cases e; exact n4)
      | 4, h' => (have e : some (Str.ofString "add_pawns") = some x := h'; cases e; exact n5)
      | 5, h' => (have e : some (Str.ofString "add_knights") = some x := h'; cases e; exact n6)
      | 6, h' => (have e : some (Str.ofString "add_castles") = some x := h'; cases e; exact n7)
      | 7, h' => (have e : some (Str.ofString "make_geometry") = some x := h'; cases e; exact n8)
      | 8, h' => (have e : some (Str.ofString "_law_near") = some x := h'; cases e; exact n9)
      | 9, h' => (have e : some (Str.ofString "solve") = some x := h'; cases e; exact n10)
      | 10, h' => (have e : some (Str.ofString "_law_folds") = some x := h'; cases e; exact n11)
      | 11, h' => (have e : some (Str.ofString "_law_is_whole") = some x := h'; cases e; exact n12)
      | 12, h' => (have e : some (Str.ofString "law") = some x := h'; cases e; exact n13)
      | n + 13, h' => exact absurd (show n + 14 < 14 from (List.getElem?_eq_some_iff.mp h').1) (by omega)
    · intro x t h
      have h' : theGlb.tups[t]? = some x := idx_get h
      match t, h' with
      | 0, h' => (have e : some (Str.ofString "STEP_FILES") = some x := h'; cases e; exact ⟨40, _, _, t0, rfl, ⟨_, u0, rfl, _, rfl⟩, by repeat (first | exact .nil | refine .cons _ _ ?_)⟩)
      | 1, h' => (have e : some (Str.ofString "STEP_RANKS") = some x := h'; cases e; exact ⟨41, _, _, t1, rfl, ⟨_, u1, rfl, _, rfl⟩, by repeat (first | exact .nil | refine .cons _ _ ?_)⟩)
      | n + 2, h' => exact absurd (show n + 2 < 2 from (List.getElem?_eq_some_iff.mp h').1) (by omega)
    · intro x v hm
      rcases List.mem_cons.mp hm with e | hm
      · cases e; exact ⟨b0, c0⟩
      rcases List.mem_cons.mp hm with e | hm
      · cases e; exact ⟨b1, c1⟩
      rcases List.mem_cons.mp hm with e | hm
      · cases e; exact ⟨b2, c2⟩
      rcases List.mem_cons.mp hm with e | hm
      · cases e; exact ⟨b3, c3⟩
      rcases List.mem_cons.mp hm with e | hm
      · cases e; exact ⟨b4, c4⟩
      · cases hm
    · intro k
      match k with
      | 0 => exact k1
      | 1 => exact k2
      | 2 => exact k3
      | 3 => exact k4
      | 4 => exact k5
      | 5 => exact k6
      | 6 => exact k7
      | 7 => exact k8
      | 8 => exact k9
      | 9 => exact k10
      | 10 => exact k11
      | 11 => exact k12
      | 12 => exact k13
      | n + 13 => exact k13
    · intro k x d hx hd
      match k, hx with
      | 0, hx => (
        have e : some (Str.ofString "__init__") = some x := hx
        cases e
        exact FnOK.of (ps := [Str.ofString "self", Str.ofString "files", Str.ofString "ranks", Str.ofString "has_double", Str.ofString "has_castling"]) hd o0 rfl (by kernel_rfl) rfl rfl rfl r0 (by intro args ha; rcases args with _ | ⟨a, _ | ⟨b, _ | ⟨c, _ | ⟨d, _ | ⟨e, _ | ⟨z, zs⟩⟩⟩⟩⟩⟩ <;> first | (simp at ha; done) | rfl | kernel_rfl))
      | 1, hx => (
        have e : some (Str.ofString "is_growing") = some x := hx
        cases e
        exact FnOK.of (ps := [Str.ofString "d"]) hd o1 rfl (by kernel_rfl) rfl rfl rfl r1 (by intro args ha; rcases args with _ | ⟨a, _ | ⟨z, zs⟩⟩ <;> first | (simp at ha; done) | rfl | kernel_rfl))
      | 2, hx => (
        have e : some (Str.ofString "add_masks") = some x := hx
        cases e
        exact FnOK.of (ps := [Str.ofString "geo"]) hd o2 rfl (by kernel_rfl) rfl rfl rfl r2 (by intro args ha; rcases args with _ | ⟨a, _ | ⟨z, zs⟩⟩ <;> first | (simp at ha; done) | rfl | kernel_rfl))
      | 3, hx => (
        have e : some (Str.ofString "inner_squares") = some x := hx
        cases e
        exact FnOK.of (ps := [Str.ofString "geo", Str.ofString "d"]) hd o3 rfl (by kernel_rfl) rfl rfl rfl r3 (by intro args ha; rcases args with _ | ⟨a, _ | ⟨b, _ | ⟨z, zs⟩⟩⟩ <;> first | (simp at ha; done) | rfl | kernel_rfl))
      | 4, hx => (
        have e : some (Str.ofString "add_rays") = some x := hx
        cases e
        exact FnOK.of (ps := [Str.ofString "geo"]) hd o4 rfl (by kernel_rfl) rfl rfl rfl r4 (by intro args ha; rcases args with _ | ⟨a, _ | ⟨z, zs⟩⟩ <;> first | (simp at ha; done) | rfl | kernel_rfl))
      | 5, hx => (
        have e : some (Str.ofString "add_pawns") = some x := hx
        cases e
        exact FnOK.of (ps := [Str.ofString "geo"]) hd o5 rfl (by kernel_rfl) rfl rfl rfl r5 (by intro args ha; rcases args with _ | ⟨a, _ | ⟨z, zs⟩⟩ <;> first | (simp at ha; done) | rfl | kernel_rfl))
      | 6, hx => (
        have e : some (Str.ofString "add_knights") = some x := hx
        cases e
        exact FnOK.of (ps := [Str.ofString "geo"]) hd o6 rfl (by kernel_rfl) rfl rfl rfl r6 (by intro args ha; rcases args with _ | ⟨a, _ | ⟨z, zs⟩⟩ <;> first | (simp at ha; done) | rfl | kernel_rfl))
      | 7, hx => (
        have e : some (Str.ofString "add_castles") = some x := hx
        cases e
        exact FnOK.of (ps := [Str.ofString "geo"]) hd o7 rfl (by kernel_rfl) rfl rfl rfl r7 (by intro args ha; rcases args with _ | ⟨a, _ | ⟨z, zs⟩⟩ <;> first | (simp at ha; done) | rfl | kernel_rfl))
      | 8, hx => (
        have e : some (Str.ofString "make_geometry") = some x := hx
        cases e
        exact FnOK.of (ps := [Str.ofString "files", Str.ofString "ranks", Str.ofString "has_double", Str.ofString "has_castling"]) hd o8 rfl (by kernel_rfl) rfl rfl rfl r8 (by intro args ha; rcases args with _ | ⟨a, _ | ⟨b, _ | ⟨c, _ | ⟨d, _ | ⟨z, zs⟩⟩⟩⟩⟩ <;> first | (simp at ha; done) | rfl | kernel_rfl))
      | 9, hx => (
        have e : some (Str.ofString "_law_near") = some x := hx
        cases e
        exact FnOK.of (ps := [Str.ofString "geo", Str.ofString "squares"]) hd o9 rfl (by kernel_rfl) rfl rfl rfl r9 (by intro args ha; rcases args with _ | ⟨a, _ | ⟨b, _ | ⟨z, zs⟩⟩⟩ <;> first | (simp at ha; done) | rfl | kernel_rfl))
      | 10, hx => (
        have e : some (Str.ofString "solve") = some x := hx
        cases e
        exact FnOK.of (ps := [Str.ofString "sides", Str.ofString "after", Str.ofString "lost"]) hd o10 rfl (by kernel_rfl) rfl rfl rfl r10 (by intro args ha; rcases args with _ | ⟨a, _ | ⟨b, _ | ⟨c, _ | ⟨z, zs⟩⟩⟩⟩ <;> first | (simp at ha; done) | rfl | kernel_rfl))
      | 11, hx => (
        have e : some (Str.ofString "_law_folds") = some x := hx
        cases e
        exact FnOK.of (ps := [Str.ofString "near"]) hd o11 rfl (by kernel_rfl) rfl rfl rfl r11 (by intro args ha; rcases args with _ | ⟨a, _ | ⟨z, zs⟩⟩ <;> first | (simp at ha; done) | rfl | kernel_rfl))
      | 12, hx => (
        have e : some (Str.ofString "_law_is_whole") = some x := hx
        cases e
        exact FnOK.of (ps := [Str.ofString "near"]) hd o12 rfl (by kernel_rfl) rfl rfl rfl r12 (by intro args ha; rcases args with _ | ⟨a, _ | ⟨z, zs⟩⟩ <;> first | (simp at ha; done) | rfl | kernel_rfl))
      | 13, hx => (
        have e : some (Str.ofString "law") = some x := hx
        cases e
        exact FnOK.of (ps := [Str.ofString "script"]) hd o13 rfl (by kernel_rfl) rfl rfl rfl r13 (by intro args ha; rcases args with _ | ⟨a, _ | ⟨z, zs⟩⟩ <;> first | (simp at ha; done) | rfl | kernel_rfl))
      | n + 14, hx => exact absurd (show n + 14 < 14 from (List.getElem?_eq_some_iff.mp hx).1) (by omega)
    · intro A s args Q E hk h
      exact mkI_of KX m1 m2 m3 A s args Q E hk h
    · intro A s x dx es n nm name v Q E hk hn hx hd hl hv h
      refine getA_of KX m4 m5 A s x dx es n name v Q E hk ?_ hx hd hl hv h
      match nm, hn with
      | 0, hn => (have e : some (Str.ofString "files") = some name := hn; cases e; exact a0)
      | 1, hn => (have e : some (Str.ofString "ranks") = some name := hn; cases e; exact a1)
      | 2, hn => (have e : some (Str.ofString "size") = some name := hn; cases e; exact a2)
      | 3, hn => (have e : some (Str.ofString "full") = some name := hn; cases e; exact a3)
      | 4, hn => (have e : some (Str.ofString "has_double") = some name := hn; cases e; exact a4)
      | 5, hn => (have e : some (Str.ofString "has_castling") = some name := hn; cases e; exact a5)
      | 6, hn => (have e : some (Str.ofString "file_masks") = some name := hn; cases e; exact a6)
      | 7, hn => (have e : some (Str.ofString "rank_masks") = some name := hn; cases e; exact a7)
      | 8, hn => (have e : some (Str.ofString "rays") = some name := hn; cases e; exact a8)
      | 9, hn => (have e : some (Str.ofString "king") = some name := hn; cases e; exact a9)
      | 10, hn => (have e : some (Str.ofString "knight") = some name := hn; cases e; exact a10)
      | 11, hn => (have e : some (Str.ofString "pawn") = some name := hn; cases e; exact a11)
      | 12, hn => (have e : some (Str.ofString "castles") = some name := hn; cases e; exact a12)
      | 13, hn => (have e : some (Str.ofString "rights_lost") = some name := hn; cases e; exact a13)
      | n + 14, hn => exact absurd (show n + 14 < 14 from (List.getElem?_eq_some_iff.mp hn).1) (by omega)
    · intro A s x dx L m es n nm name v Q E hk hn hx hd hl hz hL hne h
      refine setA_of KX m6 m7 m5 A s x dx L m es n name v Q E hk ?_ hx hd hl hz hL hne h
      match nm, hn with
      | 0, hn => (have e : some (Str.ofString "files") = some name := hn; cases e; exact e0)
      | 1, hn => (have e : some (Str.ofString "ranks") = some name := hn; cases e; exact e1)
      | 2, hn => (have e : some (Str.ofString "size") = some name := hn; cases e; exact e2)
      | 3, hn => (have e : some (Str.ofString "full") = some name := hn; cases e; exact e3)
      | 4, hn => (have e : some (Str.ofString "has_double") = some name := hn; cases e; exact e4)
      | 5, hn => (have e : some (Str.ofString "has_castling") = some name := hn; cases e; exact e5)
      | 6, hn => (have e : some (Str.ofString "file_masks") = some name := hn; cases e; exact e6)
      | 7, hn => (have e : some (Str.ofString "rank_masks") = some name := hn; cases e; exact e7)
      | 8, hn => (have e : some (Str.ofString "rays") = some name := hn; cases e; exact e8)
      | 9, hn => (have e : some (Str.ofString "king") = some name := hn; cases e; exact e9)
      | 10, hn => (have e : some (Str.ofString "knight") = some name := hn; cases e; exact e10)
      | 11, hn => (have e : some (Str.ofString "pawn") = some name := hn; cases e; exact e11)
      | 12, hn => (have e : some (Str.ofString "castles") = some name := hn; cases e; exact e12)
      | 13, hn => (have e : some (Str.ofString "rights_lost") = some name := hn; cases e; exact e13)
      | n + 14, hn => exact absurd (show n + 14 < 14 from (List.getElem?_eq_some_iff.mp hn).1) (by omega)
  obtain ⟨N, st', hrun⟩ := law_pure ns hlen'
  refine codeAny_mono (run_ok S N 6 13 [.scr] [] _ _ hrun [] s₁ callerA [.ref sc] (fun v s' => v = .bool true ∧ Kept s₁.heap s'.heap ∧ s'.gens = s₁.gens ∧ s'.os = s₁.os) (fun _ _ => False) ?_ ?_ ?_ ?_) ?_
  · exact ⟨rfl, by decide, by decide⟩
  · exact ⟨rfl, (fun k o h => by simp at h), (fun i j a h => by simp at h), (fun _ _ h => h), (fun a h => nomatch h), rfl, rfl⟩
  · exact .cons .scr .nil
  · intro s' φ' c t p hk vc
    cases vc
    exact ⟨rfl, t.kept, t.gens, t.os⟩
  · intro r s' hr
    cases r with
    | error e => exact hr.elim
    | ok f => cases f with
      | ret v =>
        obtain ⟨rfl, hk, hg', ho'⟩ := hr
        refine GoodW.toG ⟨.inl ⟨.bool true, .bool true, [], rfl, raisesW_false (r := PySem.Challenge.rw_tg0012_01.row.toRowW) (fun _ h => nomatch h), .bool true, ?_, fun _ => ⟨.nil, fun a h => nomatch h⟩⟩, hk, ho', hg'.trans hg⟩
        exact postW_of rfl (w_eq_bool (w_res rfl) w_lit) rfl
      | _ => exact hr.elim)
end Mine

theorem PySem.Challenge.cw_tg0012_01_holds : PySem.Challenge.rw_tg0012_01.Holds := by
  exact Mine.top_of Mine.law_pure
