import PyProof.Rows.All
import Wide.All
import OpenK.AllK
import Wide.FinOn
import PySem.Challenge.RW_nt0426_01
set_option Elab.async false
section
open PySem PySem.W PyProof.Rows
namespace Mine

/-! A small language of our own: slots in place of names, no places. -/

inductive V where
  | int (i : Int) | bool (b : Bool) | nul | ref (i : Nat) | ext (ns : List Int)

inductive O where
  | list (vs : List V) | tup (vs : List V) | inst (d : Nat) | dict (vs : List V) | range (a b c : Int)

noncomputable abbrev Mem := List O
noncomputable abbrev Loc := List (Option V)

inductive Op | add | sub | mul | fdiv | mod | pow | shl | shr | band | bor | bxor
  deriving DecidableEq
inductive Cm | lt | le | gt | ge | eq | ne
  deriving DecidableEq

inductive E where
  | lit (i : Int)
  | tt (b : Bool)
  | nul
  | loc (x : Nat)
  | gint (g : Nat)
  | bin (o : Op) (a b : E)
  | neg (a : E)
  | inv (a : E)
  | cmp (c : Cm) (a b : E)
  | chain (c d : Cm) (a b e : E)
  | and (a b : E)
  | or (a b : E)
  | ors (es : List E)
  | ite (c a b : E)
  | attr (a : E) (f : Nat)
  | idx (a b : E)
  | gidx (g : Nat) (b : E)
  | tup (es : List E)
  | list (es : List E)
  | rep (a n : E)
  | cat (a b : E)
  | take (a : E) (n : Nat)
  | call (f : Nat) (es : List E)
  | new (es : List E)
  | range (es : List E)
  | len (a : E)
  | tne (a b : E)

inductive S where
  | asg (x : Nat) (e : E)
  | aug (x : Nat) (o : Op) (e : E)
  | setat (a : E) (f : Nat) (e : E)
  | setidx (a i e : E)
  | augidx (a i : E) (o : Op) (e : E)
  | app (a e : E)
  | expr (e : E)
  | ret (e : E)
  | ite (c : E) (t f : List S)
  | while (c : E) (b : List S)
  | for (x : Nat) (it : E) (b : List S)
  | stuck

inductive Fl where
  | next
  | ret (v : V)

/-! ints -/

noncomputable def p2 (n : Int) : Int := ((2 ^ n.toNat : Nat) : Int)

noncomputable def band : Int → Int → Int
  | .ofNat a, .ofNat b => .ofNat (a &&& b)
  | a, b => Builtin.bitAnd a b
noncomputable def bor : Int → Int → Int
  | .ofNat a, .ofNat b => .ofNat (a ||| b)
  | a, b => Builtin.bitOr a b
noncomputable def bxor : Int → Int → Int
  | .ofNat a, .ofNat b => .ofNat (a ^^^ b)
  | a, b => Builtin.bitXor a b

noncomputable def small (a : Int) : Bool := Nat.blt a.natAbs (2 ^ 64)
noncomputable def shOk (b : Int) : Bool := decide (0 ≤ b) && decide (b ≤ 1000000)

noncomputable def ibin : Op → Int → Int → Option Int
  | .add, a, b => some (a + b)
  | .sub, a, b => some (a - b)
  | .mul, a, b => if small a then some (a * b) else none
  | .fdiv, a, b => if b != 0 && small b then some (a.fdiv b) else none
  | .mod, a, b => if b != 0 then some (a.fmod b) else none
  | .pow, a, b => if a == 2 && shOk b then some (p2 b) else none
  | .shl, a, b => if shOk b && small a then some (a * p2 b) else none
  | .shr, a, b => if shOk b then some (a.fdiv (p2 b)) else none
  | .band, a, b => some (band a b)
  | .bor, a, b => some (bor a b)
  | .bxor, a, b => some (bxor a b)

noncomputable def icmp : Cm → Int → Int → Bool
  | .lt, a, b => decide (a < b)
  | .le, a, b => decide (a ≤ b)
  | .gt, a, b => decide (b < a)
  | .ge, a, b => decide (b ≤ a)
  | .eq, a, b => a == b
  | .ne, a, b => a != b

noncomputable def vbin (o : Op) : V → V → Option V
  | .int a, .int b => (ibin o a b).map .int
  | _, _ => none
noncomputable def vcmp (c : Cm) : V → V → Option Bool
  | .int a, .int b => some (icmp c a b)
  | _, _ => none

noncomputable def truth : V → Option Bool
  | .int a => some (a != 0)
  | .bool b => some b
  | _ => none

noncomputable def ints? : List V → Option (List Int)
  | [] => some []
  | .int a :: r => (ints? r).map (a :: ·)
  | _ :: _ => none

/-- a place of a sequence, from the front alone -/
noncomputable def place (k : Int) : Option Nat := if decide (0 ≤ k) && decide (k < 2 ^ 40) then some k.toNat else none

noncomputable def seqOf (m : Mem) : V → Option (List V)
  | .ref i => match m[i]? with
    | some (.list vs) => some vs
    | some (.tup vs) => some vs
    | _ => none
  | _ => none

noncomputable def fieldsOf (m : Mem) : V → Option (Nat × List V)
  | .ref i => match m[i]? with
    | some (.inst d) => match m[d]? with
      | some (.dict vs) => some (d, vs)
      | _ => none
    | _ => none
  | _ => none

/-- what the text's own consts and tuples of ints are -/
structure Glb where
  gis : List Int
  gts : List (List Int)
  gnew : Nat

noncomputable abbrev Orc := Nat → List V → Mem → Option (V × Mem)

noncomputable def rangeOk (a b c : Int) : Bool :=
  Nat.blt a.natAbs (2 ^ 40) && Nat.blt b.natAbs (2 ^ 40) && (c == 1 || c == -1 || c == 2)

noncomputable def mkRange (vs : List V) : Option O :=
  match vs with
  | [.int b] => if rangeOk 0 b 1 then some (.range 0 b 1) else none
  | [.int a, .int b] => if rangeOk a b 1 then some (.range a b 1) else none
  | [.int a, .int b, .int c] => if rangeOk a b c then some (.range a b c) else none
  | _ => none

mutual
noncomputable def ev (G : Glb) (Γ : Orc) (l : Loc) : E → Mem → Option (V × Mem)
  | .lit i, m => some (.int i, m)
  | .tt b, m => some (.bool b, m)
  | .nul, m => some (.nul, m)
  | .loc x, m => match l[x]? with
    | some (some v) => some (v, m)
    | _ => none
  | .gint g, m => match G.gis[g]? with
    | some i => some (.int i, m)
    | none => none
  | .bin o a b, m => (ev G Γ l a m).bind fun r => (ev G Γ l b r.2).bind fun q => (vbin o r.1 q.1).map fun v => (v, q.2)
  | .neg a, m => (ev G Γ l a m).bind fun r => match r.1 with
    | .int i => some (.int (-i), r.2)
    | _ => none
  | .inv a, m => (ev G Γ l a m).bind fun r => match r.1 with
    | .int i => some (.int (-i - 1), r.2)
    | _ => none
  | .cmp c a b, m => (ev G Γ l a m).bind fun r => (ev G Γ l b r.2).bind fun q => (vcmp c r.1 q.1).map fun v => (.bool v, q.2)
  | .chain _ _ _ _ _, _ => none
  | .and a b, m => (ev G Γ l a m).bind fun r => match truth r.1 with
    | some true => ev G Γ l b r.2
    | some false => some r
    | none => none
  | .or a b, m => (ev G Γ l a m).bind fun r => match truth r.1 with
    | some true => some r
    | some false => ev G Γ l b r.2
    | none => none
  | .ors _, _ => none
  | .ite c a b, m => (evT G Γ l c m).bind fun r => if r.1 then ev G Γ l a r.2 else ev G Γ l b r.2
  | .attr a f, m => (ev G Γ l a m).bind fun r => match fieldsOf r.2 r.1 with
    | some (_, vs) => match vs[f]? with
      | some v => some (v, r.2)
      | none => none
    | none => none
  | .idx a b, m => (ev G Γ l a m).bind fun r => (ev G Γ l b r.2).bind fun q => match seqOf q.2 r.1, q.1 with
    | some vs, .int k => (place k).bind fun j => (vs[j]?).map fun v => (v, q.2)
    | _, _ => none
  | .gidx g b, m => (ev G Γ l b m).bind fun q => match G.gts[g]?, q.1 with
    | some ns, .int k => (place k).bind fun j => (ns[j]?).map fun v => (.int v, q.2)
    | _, _ => none
  | .tup es, m => (evs G Γ l es m).bind fun r => if r.1.length ≤ 1000 then some (.ref r.2.length, r.2 ++ [.tup r.1]) else none
  | .list es, m => (evs G Γ l es m).bind fun r => if r.1.length ≤ 1000 then some (.ref r.2.length, r.2 ++ [.list r.1]) else none
  | .rep a n, m => (ev G Γ l a m).bind fun r => (ev G Γ l n (r.2 ++ [.list [r.1]])).bind fun q => match q.1 with
    | .int k => match q.2[r.2.length]? with
      | some (.list [v]) => if decide (k < 1000) && decide (-1000 < k) then some (.ref q.2.length, q.2 ++ [.list (List.replicate k.toNat v)]) else none
      | _ => none
    | _ => none
  | .cat a b, m => (ev G Γ l a m).bind fun r => (ev G Γ l b r.2).bind fun q => match r.1, q.1 with
    | .ref i, .ref j => match q.2[i]?, q.2[j]? with
      | some (.list us), some (.list vs) => if us.length + vs.length ≤ 1000 then some (.ref q.2.length, q.2 ++ [.list (us ++ vs)]) else none
      | _, _ => none
    | _, _ => none
  | .take a n, m => (ev G Γ l a m).bind fun r => match r.1 with
    | .ext ns => if n ≤ 1000 then some (.ref r.2.length, r.2 ++ [.list ((ns.take n).map .int)]) else none
    | _ => none
  | .call f es, m => (evs G Γ l es m).bind fun r => Γ f r.1 r.2
  | .new es, m => (evs G Γ l es m).bind fun r =>
      (Γ G.gnew (.ref (r.2.length + 1) :: r.1) (r.2 ++ [.dict [], .inst r.2.length])).bind fun q => match q.1 with
      | .nul => some (.ref (r.2.length + 1), q.2)
      | _ => none
  | .range es, m => (evs G Γ l es m).bind fun r => (mkRange r.1).map fun o => (.ref r.2.length, r.2 ++ [o])
  | .len a, m => (ev G Γ l a m).bind fun r => match r.1 with
    | .ext ns => if ns.length ≤ 1000 then some (.int ns.length, r.2) else none
    | .ref i => match r.2[i]? with
      | some (.list vs) => if vs.length ≤ 1000 then some (.int vs.length, r.2) else none
      | _ => none
    | _ => none
  | .tne a b, m => (ev G Γ l a m).bind fun r => (ev G Γ l b r.2).bind fun q => match r.1, q.1 with
    | .ref i, .ref j => match q.2[i]?, q.2[j]? with
      | some (.tup us), some (.tup vs) => match ints? us, ints? vs with
        | some ns, some ms => some (.bool (!decide (ns = ms)), q.2)
        | _, _ => none
      | _, _ => none
    | _, _ => none
noncomputable def evs (G : Glb) (Γ : Orc) (l : Loc) : List E → Mem → Option (List V × Mem)
  | [], m => some ([], m)
  | e :: es, m => (ev G Γ l e m).bind fun r => (evs G Γ l es r.2).bind fun q => some (r.1 :: q.1, q.2)
noncomputable def evT (G : Glb) (Γ : Orc) (l : Loc) : E → Mem → Option (Bool × Mem)
  | .cmp c a b, m => (ev G Γ l a m).bind fun r => (ev G Γ l b r.2).bind fun q => (vcmp c r.1 q.1).map fun v => (v, q.2)
  | .tne a b, m => (ev G Γ l a m).bind fun r => (ev G Γ l b r.2).bind fun q => match r.1, q.1 with
    | .ref i, .ref j => match q.2[i]?, q.2[j]? with
      | some (.tup us), some (.tup vs) => match ints? us, ints? vs with
        | some ns, some ms => some (!decide (ns = ms), q.2)
        | _, _ => none
      | _, _ => none
    | _, _ => none
  | .chain c d a b e, m => (ev G Γ l a m).bind fun r => (ev G Γ l b r.2).bind fun q => (vcmp c r.1 q.1).bind fun t =>
      if t then (ev G Γ l e q.2).bind fun u => (vcmp d q.1 u.1).map fun v => (v, u.2) else some (false, q.2)
  | .and a b, m => (evT G Γ l a m).bind fun r => if r.1 then evT G Γ l b r.2 else some (false, r.2)
  | .or a b, m => (evT G Γ l a m).bind fun r => if r.1 then some (true, r.2) else evT G Γ l b r.2
  | .ors es, m => evO G Γ l es m
  | .loc x, m => match l[x]? with
    | some (some v) => (truth v).map fun b => (b, m)
    | _ => none
  | .bin o a b, m => (ev G Γ l a m).bind fun r => (ev G Γ l b r.2).bind fun q => (vbin o r.1 q.1).bind fun v => (truth v).map fun b => (b, q.2)
  | .attr a f, m => (ev G Γ l a m).bind fun r => match fieldsOf r.2 r.1 with
    | some (_, vs) => match vs[f]? with
      | some v => (truth v).map fun b => (b, r.2)
      | none => none
    | none => none
  | .call f es, m => (evs G Γ l es m).bind fun r => (Γ f r.1 r.2).bind fun q => (truth q.1).map fun b => (b, q.2)
  | _, _ => none
noncomputable def evO (G : Glb) (Γ : Orc) (l : Loc) : List E → Mem → Option (Bool × Mem)
  | [], m => some (false, m)
  | e :: es, m => (evT G Γ l e m).bind fun r => if r.1 then some (true, r.2) else evO G Γ l es r.2
end

noncomputable abbrev St := Loc × Mem

noncomputable def whl (test : St → Option (Bool × Mem)) (body : St → Option (Fl × St)) : Nat → St → Option (Fl × St)
  | 0, _ => none
  | n + 1, st => match test st with
    | none => none
    | some (false, m) => some (.next, (st.1, m))
    | some (true, m) => match body (st.1, m) with
      | none => none
      | some (.next, st') => whl test body n st'
      | some (.ret v, st') => some (.ret v, st')

noncomputable def listAt (i : Nat) (m : Mem) : Option (List V) := match m[i]? with
  | some (.list vs) => some vs
  | _ => none
noncomputable def tupAt (i : Nat) (m : Mem) : Option (List V) := match m[i]? with
  | some (.tup vs) => some vs
  | _ => none
noncomputable def rangeItems (p q c : Int) : List V := (List.range (Builtin.Range.rangeSize p q c).toNat).map fun (j : Nat) => V.int (p + (j : Int) * c)

noncomputable def forS (get : Mem → Option (List V)) (step : V → St → Option (Fl × St)) : Nat → Nat → St → Option (Fl × St)
  | 0, _, _ => none
  | n + 1, k, st => match get st.2 with
    | none => none
    | some vs => match vs[k]? with
      | none => some (.next, st)
      | some v => match step v st with
        | none => none
        | some (.next, st') => forS get step n (k + 1) st'
        | some (.ret v, st') => some (.ret v, st')

noncomputable def setSlot (l : Loc) (x : Nat) (v : V) : Option Loc := if x < l.length then some (l.set x (some v)) else none

noncomputable def whileFuel : Nat := 100

mutual
noncomputable def ex (G : Glb) (Γ : Orc) : S → St → Option (Fl × St)
  | .asg x e, st => (ev G Γ st.1 e st.2).bind fun r => (setSlot st.1 x r.1).map fun l => (.next, (l, r.2))
  | .aug x o e, st => match st.1[x]? with
    | some (some u) => (ev G Γ st.1 e st.2).bind fun r => (vbin o u r.1).bind fun v => (setSlot st.1 x v).map fun l => (.next, (l, r.2))
    | _ => none
  | .setat a f e, st => (ev G Γ st.1 e st.2).bind fun r => (ev G Γ st.1 a r.2).bind fun q => match fieldsOf q.2 q.1 with
    | some (d, vs) => if f < vs.length then some (.next, (st.1, q.2.set d (.dict (vs.set f r.1)))) else
        if f == vs.length then some (.next, (st.1, q.2.set d (.dict (vs ++ [r.1])))) else none
    | none => none
  | .setidx a i e, st => (ev G Γ st.1 e st.2).bind fun r => (ev G Γ st.1 a r.2).bind fun q => (ev G Γ st.1 i q.2).bind fun p => match q.1, p.1 with
    | .ref j, .int k => match p.2[j]?, place k with
      | some (.list vs), some n => if n < vs.length then some (.next, (st.1, p.2.set j (.list (vs.set n r.1)))) else none
      | _, _ => none
    | _, _ => none
  | .augidx a i o e, st => (ev G Γ st.1 a st.2).bind fun q => (ev G Γ st.1 i q.2).bind fun p => match q.1, p.1 with
    | .ref j, .int k => match p.2[j]?, place k with
      | some (.list vs), some n => match vs[n]? with
        | some u => (ev G Γ st.1 e p.2).bind fun r => match r.2[j]? with
          | some (.list ws) => (vbin o u r.1).bind fun v => if n < ws.length then some (.next, (st.1, r.2.set j (.list (ws.set n v)))) else none
          | _ => none
        | none => none
      | _, _ => none
    | _, _ => none
  | .app a e, st => (ev G Γ st.1 a st.2).bind fun q => match q.1 with
    | .ref j => match q.2[j]? with
      | some (.list _) => (ev G Γ st.1 e q.2).bind fun r => match r.2[j]? with
        | some (.list vs) => if vs.length ≤ 1000 then some (.next, (st.1, r.2.set j (.list (vs ++ [r.1])))) else none
        | _ => none
      | _ => none
    | _ => none
  | .expr e, st => (ev G Γ st.1 e st.2).map fun r => (.next, (st.1, r.2))
  | .ret e, st => (ev G Γ st.1 e st.2).map fun r => (.ret r.1, (st.1, r.2))
  | .ite c t f, st => (evT G Γ st.1 c st.2).bind fun r => if r.1 then exs G Γ t (st.1, r.2) else exs G Γ f (st.1, r.2)
  | .while c b, st => whl (fun st => evT G Γ st.1 c st.2) (exs G Γ b) whileFuel st
  | .for x it b, st => (ev G Γ st.1 it st.2).bind fun r => match r.1 with
    | .ref i => match r.2[i]? with
      | some (.list vs) => forS (listAt i) (fun v st => (setSlot st.1 x v).bind fun l => exs G Γ b (l, st.2)) (vs.length + 1) 0 (st.1, r.2)
      | some (.tup vs) => forS (tupAt i) (fun v st => (setSlot st.1 x v).bind fun l => exs G Γ b (l, st.2)) (vs.length + 1) 0 (st.1, r.2)
      | some (.range p q c) => forS (fun _ => some (rangeItems p q c)) (fun v st => (setSlot st.1 x v).bind fun l => exs G Γ b (l, st.2)) ((Builtin.Range.rangeSize p q c).toNat + 1) 0 (st.1, r.2)
      | _ => none
    | _ => none
  | .stuck, _ => none
noncomputable def exs (G : Glb) (Γ : Orc) : List S → St → Option (Fl × St)
  | [], st => some (.next, st)
  | s :: ss, st => match ex G Γ s st with
    | none => none
    | some (.next, st') => exs G Γ ss st'
    | some (.ret v, st') => some (.ret v, st')
end

structure Fn where
  params : Nat
  slots : Nat
  body : List S

noncomputable def runFn (G : Glb) (Γ : Orc) (f : Fn) (args : List V) (m : Mem) : Option (V × Mem) :=
  if args.length == f.params then
    match exs G Γ f.body (args.map some ++ List.replicate (f.slots - f.params) none, m) with
    | some (.ret v, st) => some (v, st.2)
    | some (.next, st) => some (.nul, st.2)
    | none => none
  else none

noncomputable def sem (G : Glb) (fs : List Fn) : Nat → Orc
  | 0, _, _, _ => none
  | n + 1, k, args, m => match fs[k]? with
    | some f => runFn G (sem G fs n) f args m
    | none => none

end Mine
end
section
open PySem PySem.W PySem.Calls PyProof.Rows PySem.Spec
namespace Mine

/-! names; what text a term of ours stands for -/

structure Names where
  fns : List Str
  attrs : List Str
  gis : List Str
  gts : List Str
  cls : Str

structure Sc where
  loc : List Str
  glob : List Str

noncomputable def opOf : Operator → Option Op
  | .Add => some .add | .Sub => some .sub | .Mult => some .mul | .FloorDiv => some .fdiv | .Mod => some .mod | .Pow => some .pow
  | .LShift => some .shl | .RShift => some .shr | .BitAnd => some .band | .BitOr => some .bor | .BitXor => some .bxor
  | _ => none
noncomputable def cmOf : CmpOp → Option Cm
  | .Lt => some .lt | .LtE => some .le | .Gt => some .gt | .GtE => some .ge | .Eq => some .eq | .NotEq => some .ne
  | _ => none

noncomputable def gl (c : Sc) (o : Option Str) (id : Str) : Bool := o == some id && c.glob.contains id
noncomputable def isNm : Expr → Bool
  | .Name .. => true
  | _ => false
noncomputable def isBase : Expr → Bool
  | .Name .. | .Attribute .. | .Subscript .. => true
  | _ => false
noncomputable def someE : List Expr → Bool
  | [] => false
  | _ => true

/-! the checker (printed by wip/mk2.py) -/
/-- names compared by a number: quick for the kernel -/
noncomputable def oEq (o : Option Str) (x : Str) : Bool := @Option.rec Str (fun _ => Bool) false (fun y => Fast.sEq y x) o
theorem sEq_beq (a b : Str) : Fast.sEq a b = (a == b) := by
  cases h : Fast.sEq a b with
  | true => rw [Fast.sEq_iff.mp h, beq_self_eq_true]
  | false =>
    refine (beq_eq_false_iff_ne.mpr fun e => ?_).symm
    rw [Fast.sEq_iff.mpr e] at h
    cases h
theorem oEq_eq (o : Option Str) (x : Str) : oEq o x = (o == some x) := by
  cases o with
  | none => rfl
  | some y => exact sEq_beq y x
noncomputable def anyS (l : List Str) (x : Str) : Bool := @List.rec Str (fun _ => Bool) false (fun y _ r => @Bool.rec (fun _ => Bool) r true (Fast.sEq x y)) l
theorem anyS_eq (x : Str) : ∀ l : List Str, anyS l x = l.contains x
  | [] => rfl
  | y :: l => by
    show @Bool.rec (fun _ => Bool) (anyS l x) true (Fast.sEq x y) = _
    rw [List.contains_cons, anyS_eq x l, sEq_beq]
    cases x == y <;> rfl
noncomputable def glR (c : Sc) (o : Option Str) (id : Str) : Bool := oEq o id && anyS c.glob id
theorem glR_eq (c : Sc) (o : Option Str) (id : Str) : glR c o id = gl c o id := by
  unfold glR gl
  rw [oEq_eq, anyS_eq]
noncomputable def lookS {β : Type} (l : List (Str × β)) (x : Str) : Option β := @List.rec (Str × β) (fun _ => Option β) none (fun p _ r => @Bool.rec (fun _ => Option β) r (some p.2) (Fast.sEq x p.1)) l
theorem lookS_eq {β : Type} (x : Str) : ∀ l : List (Str × β), lookS l x = l.lookup x
  | [] => rfl
  | p :: l => by
    show @Bool.rec (fun _ => Option β) (lookS l x) (some p.2) (Fast.sEq x p.1) = _
    rw [lookS_eq x l, sEq_beq, List.lookup_cons]
    cases x == p.1 <;> rfl
theorem ff {p : Prop} (h : false = true) : p := Bool.noConfusion h
noncomputable def onConstant (k : Const → Nat → Pos → Bool) : Expr → Bool
  | .Constant a0 a1 a2 => k a0 a1 a2
  | _ => false
theorem onConstant_inv {k : Const → Nat → Pos → Bool} {x : Expr} {Q : Expr → Prop} (h : onConstant k x = true) (q : ∀ a0 a1 a2, k a0 a1 a2 = true → Q (.Constant a0 a1 a2)) : Q x := by
  cases x with
  | Constant a0 a1 a2 => exact q a0 a1 a2 h
  | _ => exact ff h
noncomputable def onName (k : Str → Pos → Bool) : Expr → Bool
  | .Name a0 a1 => k a0 a1
  | _ => false
theorem onName_inv {k : Str → Pos → Bool} {x : Expr} {Q : Expr → Prop} (h : onName k x = true) (q : ∀ a0 a1, k a0 a1 = true → Q (.Name a0 a1)) : Q x := by
  cases x with
  | Name a0 a1 => exact q a0 a1 h
  | _ => exact ff h
noncomputable def onBinOp (k : Expr → Operator → Expr → Pos → Bool) : Expr → Bool
  | .BinOp a0 a1 a2 a3 => k a0 a1 a2 a3
  | _ => false
theorem onBinOp_inv {k : Expr → Operator → Expr → Pos → Bool} {x : Expr} {Q : Expr → Prop} (h : onBinOp k x = true) (q : ∀ a0 a1 a2 a3, k a0 a1 a2 a3 = true → Q (.BinOp a0 a1 a2 a3)) : Q x := by
  cases x with
  | BinOp a0 a1 a2 a3 => exact q a0 a1 a2 a3 h
  | _ => exact ff h
noncomputable def onUnaryOp (k : UnaryOp → Expr → Pos → Bool) : Expr → Bool
  | .UnaryOp a0 a1 a2 => k a0 a1 a2
  | _ => false
theorem onUnaryOp_inv {k : UnaryOp → Expr → Pos → Bool} {x : Expr} {Q : Expr → Prop} (h : onUnaryOp k x = true) (q : ∀ a0 a1 a2, k a0 a1 a2 = true → Q (.UnaryOp a0 a1 a2)) : Q x := by
  cases x with
  | UnaryOp a0 a1 a2 => exact q a0 a1 a2 h
  | _ => exact ff h
noncomputable def onCompare (k : Expr → List CmpOp → List Expr → Pos → Bool) : Expr → Bool
  | .Compare a0 a1 a2 a3 => k a0 a1 a2 a3
  | _ => false
theorem onCompare_inv {k : Expr → List CmpOp → List Expr → Pos → Bool} {x : Expr} {Q : Expr → Prop} (h : onCompare k x = true) (q : ∀ a0 a1 a2 a3, k a0 a1 a2 a3 = true → Q (.Compare a0 a1 a2 a3)) : Q x := by
  cases x with
  | Compare a0 a1 a2 a3 => exact q a0 a1 a2 a3 h
  | _ => exact ff h
noncomputable def onBoolOp (k : BoolOp → List Expr → Pos → Bool) : Expr → Bool
  | .BoolOp a0 a1 a2 => k a0 a1 a2
  | _ => false
theorem onBoolOp_inv {k : BoolOp → List Expr → Pos → Bool} {x : Expr} {Q : Expr → Prop} (h : onBoolOp k x = true) (q : ∀ a0 a1 a2, k a0 a1 a2 = true → Q (.BoolOp a0 a1 a2)) : Q x := by
  cases x with
  | BoolOp a0 a1 a2 => exact q a0 a1 a2 h
  | _ => exact ff h
noncomputable def onIfExp (k : Expr → Expr → Expr → Pos → Bool) : Expr → Bool
  | .IfExp a0 a1 a2 a3 => k a0 a1 a2 a3
  | _ => false
theorem onIfExp_inv {k : Expr → Expr → Expr → Pos → Bool} {x : Expr} {Q : Expr → Prop} (h : onIfExp k x = true) (q : ∀ a0 a1 a2 a3, k a0 a1 a2 a3 = true → Q (.IfExp a0 a1 a2 a3)) : Q x := by
  cases x with
  | IfExp a0 a1 a2 a3 => exact q a0 a1 a2 a3 h
  | _ => exact ff h
noncomputable def onAttribute (k : Expr → Str → Pos → Bool) : Expr → Bool
  | .Attribute a0 a1 a2 => k a0 a1 a2
  | _ => false
theorem onAttribute_inv {k : Expr → Str → Pos → Bool} {x : Expr} {Q : Expr → Prop} (h : onAttribute k x = true) (q : ∀ a0 a1 a2, k a0 a1 a2 = true → Q (.Attribute a0 a1 a2)) : Q x := by
  cases x with
  | Attribute a0 a1 a2 => exact q a0 a1 a2 h
  | _ => exact ff h
noncomputable def onSubscript (k : Expr → Expr → Pos → Bool) : Expr → Bool
  | .Subscript a0 a1 a2 => k a0 a1 a2
  | _ => false
theorem onSubscript_inv {k : Expr → Expr → Pos → Bool} {x : Expr} {Q : Expr → Prop} (h : onSubscript k x = true) (q : ∀ a0 a1 a2, k a0 a1 a2 = true → Q (.Subscript a0 a1 a2)) : Q x := by
  cases x with
  | Subscript a0 a1 a2 => exact q a0 a1 a2 h
  | _ => exact ff h
noncomputable def onTuple (k : List Expr → Nat → Pos → Bool) : Expr → Bool
  | .Tuple a0 a1 a2 => k a0 a1 a2
  | _ => false
theorem onTuple_inv {k : List Expr → Nat → Pos → Bool} {x : Expr} {Q : Expr → Prop} (h : onTuple k x = true) (q : ∀ a0 a1 a2, k a0 a1 a2 = true → Q (.Tuple a0 a1 a2)) : Q x := by
  cases x with
  | Tuple a0 a1 a2 => exact q a0 a1 a2 h
  | _ => exact ff h
noncomputable def onList (k : List Expr → Pos → Bool) : Expr → Bool
  | .List a0 a1 => k a0 a1
  | _ => false
theorem onList_inv {k : List Expr → Pos → Bool} {x : Expr} {Q : Expr → Prop} (h : onList k x = true) (q : ∀ a0 a1, k a0 a1 = true → Q (.List a0 a1)) : Q x := by
  cases x with
  | List a0 a1 => exact q a0 a1 h
  | _ => exact ff h
noncomputable def onCall (k : Expr → List Expr → List Keyword → Pos → Bool) : Expr → Bool
  | .Call a0 a1 a2 a3 => k a0 a1 a2 a3
  | _ => false
theorem onCall_inv {k : Expr → List Expr → List Keyword → Pos → Bool} {x : Expr} {Q : Expr → Prop} (h : onCall k x = true) (q : ∀ a0 a1 a2 a3, k a0 a1 a2 a3 = true → Q (.Call a0 a1 a2 a3)) : Q x := by
  cases x with
  | Call a0 a1 a2 a3 => exact q a0 a1 a2 a3 h
  | _ => exact ff h
noncomputable def onSlice (k : Option Expr → Option Expr → Option Expr → Pos → Bool) : Expr → Bool
  | .Slice a0 a1 a2 a3 => k a0 a1 a2 a3
  | _ => false
theorem onSlice_inv {k : Option Expr → Option Expr → Option Expr → Pos → Bool} {x : Expr} {Q : Expr → Prop} (h : onSlice k x = true) (q : ∀ a0 a1 a2 a3, k a0 a1 a2 a3 = true → Q (.Slice a0 a1 a2 a3)) : Q x := by
  cases x with
  | Slice a0 a1 a2 a3 => exact q a0 a1 a2 a3 h
  | _ => exact ff h
noncomputable def onint (k : Int → Bool) : Const → Bool
  | .int a0 => k a0
  | _ => false
theorem onint_inv {k : Int → Bool} {x : Const} {Q : Const → Prop} (h : onint k x = true) (q : ∀ a0, k a0 = true → Q (.int a0)) : Q x := by
  cases x with
  | int a0 => exact q a0 h
  | _ => exact ff h
noncomputable def onbool (k : Bool → Bool) : Const → Bool
  | .bool a0 => k a0
  | _ => false
theorem onbool_inv {k : Bool → Bool} {x : Const} {Q : Const → Prop} (h : onbool k x = true) (q : ∀ a0, k a0 = true → Q (.bool a0)) : Q x := by
  cases x with
  | bool a0 => exact q a0 h
  | _ => exact ff h
noncomputable def onnone (k : Bool) : Const → Bool
  | .none => k
  | _ => false
theorem onnone_inv {k : Bool} {x : Const} {Q : Const → Prop} (h : onnone k x = true) (q : k = true → Q .none) : Q x := by
  cases x with
  | none => exact q h
  | _ => exact ff h
noncomputable def onUSub (k : Bool) : UnaryOp → Bool
  | .USub => k
  | _ => false
theorem onUSub_inv {k : Bool} {x : UnaryOp} {Q : UnaryOp → Prop} (h : onUSub k x = true) (q : k = true → Q .USub) : Q x := by
  cases x with
  | USub => exact q h
  | _ => exact ff h
noncomputable def onInvert (k : Bool) : UnaryOp → Bool
  | .Invert => k
  | _ => false
theorem onInvert_inv {k : Bool} {x : UnaryOp} {Q : UnaryOp → Prop} (h : onInvert k x = true) (q : k = true → Q .Invert) : Q x := by
  cases x with
  | Invert => exact q h
  | _ => exact ff h
noncomputable def onAnd (k : Bool) : BoolOp → Bool
  | .And => k
  | _ => false
theorem onAnd_inv {k : Bool} {x : BoolOp} {Q : BoolOp → Prop} (h : onAnd k x = true) (q : k = true → Q .And) : Q x := by
  cases x with
  | And => exact q h
  | _ => exact ff h
noncomputable def onOr (k : Bool) : BoolOp → Bool
  | .Or => k
  | _ => false
theorem onOr_inv {k : Bool} {x : BoolOp} {Q : BoolOp → Prop} (h : onOr k x = true) (q : k = true → Q .Or) : Q x := by
  cases x with
  | Or => exact q h
  | _ => exact ff h
noncomputable def onMult (k : Bool) : Operator → Bool
  | .Mult => k
  | _ => false
theorem onMult_inv {k : Bool} {x : Operator} {Q : Operator → Prop} (h : onMult k x = true) (q : k = true → Q .Mult) : Q x := by
  cases x with
  | Mult => exact q h
  | _ => exact ff h
noncomputable def onAdd (k : Bool) : Operator → Bool
  | .Add => k
  | _ => false
theorem onAdd_inv {k : Bool} {x : Operator} {Q : Operator → Prop} (h : onAdd k x = true) (q : k = true → Q .Add) : Q x := by
  cases x with
  | Add => exact q h
  | _ => exact ff h
noncomputable def onNotEq (k : Bool) : CmpOp → Bool
  | .NotEq => k
  | _ => false
theorem onNotEq_inv {k : Bool} {x : CmpOp} {Q : CmpOp → Prop} (h : onNotEq k x = true) (q : k = true → Q .NotEq) : Q x := by
  cases x with
  | NotEq => exact q h
  | _ => exact ff h
noncomputable def onAssign (k : List Expr → Expr → Pos → Bool) : Stmt → Bool
  | .Assign a0 a1 a2 => k a0 a1 a2
  | _ => false
theorem onAssign_inv {k : List Expr → Expr → Pos → Bool} {x : Stmt} {Q : Stmt → Prop} (h : onAssign k x = true) (q : ∀ a0 a1 a2, k a0 a1 a2 = true → Q (.Assign a0 a1 a2)) : Q x := by
  cases x with
  | Assign a0 a1 a2 => exact q a0 a1 a2 h
  | _ => exact ff h
noncomputable def onAugAssign (k : Expr → Operator → Expr → Pos → Bool) : Stmt → Bool
  | .AugAssign a0 a1 a2 a3 => k a0 a1 a2 a3
  | _ => false
theorem onAugAssign_inv {k : Expr → Operator → Expr → Pos → Bool} {x : Stmt} {Q : Stmt → Prop} (h : onAugAssign k x = true) (q : ∀ a0 a1 a2 a3, k a0 a1 a2 a3 = true → Q (.AugAssign a0 a1 a2 a3)) : Q x := by
  cases x with
  | AugAssign a0 a1 a2 a3 => exact q a0 a1 a2 a3 h
  | _ => exact ff h
noncomputable def onExpr (k : Expr → Pos → Bool) : Stmt → Bool
  | .Expr a0 a1 => k a0 a1
  | _ => false
theorem onExpr_inv {k : Expr → Pos → Bool} {x : Stmt} {Q : Stmt → Prop} (h : onExpr k x = true) (q : ∀ a0 a1, k a0 a1 = true → Q (.Expr a0 a1)) : Q x := by
  cases x with
  | Expr a0 a1 => exact q a0 a1 h
  | _ => exact ff h
noncomputable def onReturn (k : Option Expr → Pos → Bool) : Stmt → Bool
  | .Return a0 a1 => k a0 a1
  | _ => false
theorem onReturn_inv {k : Option Expr → Pos → Bool} {x : Stmt} {Q : Stmt → Prop} (h : onReturn k x = true) (q : ∀ a0 a1, k a0 a1 = true → Q (.Return a0 a1)) : Q x := by
  cases x with
  | Return a0 a1 => exact q a0 a1 h
  | _ => exact ff h
noncomputable def onIf (k : Expr → List Stmt → List Stmt → Pos → Bool) : Stmt → Bool
  | .If a0 a1 a2 a3 => k a0 a1 a2 a3
  | _ => false
theorem onIf_inv {k : Expr → List Stmt → List Stmt → Pos → Bool} {x : Stmt} {Q : Stmt → Prop} (h : onIf k x = true) (q : ∀ a0 a1 a2 a3, k a0 a1 a2 a3 = true → Q (.If a0 a1 a2 a3)) : Q x := by
  cases x with
  | If a0 a1 a2 a3 => exact q a0 a1 a2 a3 h
  | _ => exact ff h
noncomputable def onWhile (k : Expr → List Stmt → List Stmt → Pos → Bool) : Stmt → Bool
  | .While a0 a1 a2 a3 => k a0 a1 a2 a3
  | _ => false
theorem onWhile_inv {k : Expr → List Stmt → List Stmt → Pos → Bool} {x : Stmt} {Q : Stmt → Prop} (h : onWhile k x = true) (q : ∀ a0 a1 a2 a3, k a0 a1 a2 a3 = true → Q (.While a0 a1 a2 a3)) : Q x := by
  cases x with
  | While a0 a1 a2 a3 => exact q a0 a1 a2 a3 h
  | _ => exact ff h
noncomputable def onFor (k : Expr → Expr → List Stmt → List Stmt → Pos → Bool) : Stmt → Bool
  | .For a0 a1 a2 a3 a4 => k a0 a1 a2 a3 a4
  | _ => false
theorem onFor_inv {k : Expr → Expr → List Stmt → List Stmt → Pos → Bool} {x : Stmt} {Q : Stmt → Prop} (h : onFor k x = true) (q : ∀ a0 a1 a2 a3 a4, k a0 a1 a2 a3 a4 = true → Q (.For a0 a1 a2 a3 a4)) : Q x := by
  cases x with
  | For a0 a1 a2 a3 a4 => exact q a0 a1 a2 a3 a4 h
  | _ => exact ff h
noncomputable def onNil {α : Type} (k : Bool) : List α → Bool
  | [] => k
  | _ :: _ => false
theorem onNil_inv {α : Type} {k : Bool} {x : List α} {Q : List α → Prop} (h : onNil k x = true) (q : k = true → Q []) : Q x := by
  cases x with
  | nil => exact q h
  | cons _ _ => exact ff h
noncomputable def onCons {α : Type} (k : α → List α → Bool) : List α → Bool
  | [] => false
  | a :: r => k a r
theorem onCons_inv {α : Type} {k : α → List α → Bool} {x : List α} {Q : List α → Prop} (h : onCons k x = true) (q : ∀ a r, k a r = true → Q (a :: r)) : Q x := by
  cases x with
  | nil => exact ff h
  | cons a r => exact q a r h
noncomputable def onNone {α : Type} (k : Bool) : Option α → Bool
  | none => k
  | some _ => false
theorem onNone_inv {α : Type} {k : Bool} {x : Option α} {Q : Option α → Prop} (h : onNone k x = true) (q : k = true → Q none) : Q x := by
  cases x with
  | none => exact q h
  | some _ => exact ff h
noncomputable def onSome {α : Type} (k : α → Bool) : Option α → Bool
  | none => false
  | some a => k a
theorem onSome_inv {α : Type} {k : α → Bool} {x : Option α} {Q : Option α → Prop} (h : onSome k x = true) (q : ∀ a, k a = true → Q (some a)) : Q x := by
  cases x with
  | none => exact ff h
  | some a => exact q a h
noncomputable def k_lit (P : Names) (c : Sc) (i : Int) : Expr → Bool := fun x => onConstant (fun z1 q1 q2 => (onint (fun j => (i == j)) z1)) x
noncomputable def k_tt (P : Names) (c : Sc) (b : Bool) : Expr → Bool := fun x => onConstant (fun z1 q1 q2 => (onbool (fun d => (b == d)) z1)) x
noncomputable def k_nul (P : Names) (c : Sc) : Expr → Bool := fun x => onConstant (fun z1 q1 q2 => (onnone (true) z1)) x
noncomputable def k_loc (P : Names) (c : Sc) (k : Nat) : Expr → Bool := fun x => onName (fun id q1 => (oEq c.loc[k]? id)) x
noncomputable def k_gint (P : Names) (c : Sc) (g : Nat) : Expr → Bool := fun x => onName (fun id q1 => (glR c P.gis[g]? id)) x
noncomputable def k_bin (P : Names) (c : Sc) (o : Op) (r_a : Expr → Bool) (r_b : Expr → Bool) : Expr → Bool := fun x => onBinOp (fun l op r q1 => (opOf op == some o && r_a l && r_b r)) x
noncomputable def k_neg (P : Names) (c : Sc) (r_a : Expr → Bool) : Expr → Bool := fun x => onUnaryOp (fun z1 y q1 => (onUSub (r_a y) z1)) x
noncomputable def k_inv (P : Names) (c : Sc) (r_a : Expr → Bool) : Expr → Bool := fun x => onUnaryOp (fun z1 y q1 => (onInvert (r_a y) z1)) x
noncomputable def k_cmp (P : Names) (c : Sc) (d : Cm) (r_a : Expr → Bool) (r_b : Expr → Bool) : Expr → Bool := fun x => onCompare (fun l z1 z2 q1 => (onCons (fun op z3 => (onNil (onCons (fun r z4 => (onNil (cmOf op == some d && r_a l && r_b r) z4)) z2) z3)) z1)) x
noncomputable def k_chain (P : Names) (c : Sc) (d : Cm) (d' : Cm) (r_a : Expr → Bool) (r_b : Expr → Bool) (r_e : Expr → Bool) : Expr → Bool := fun x => onCompare (fun l z1 z2 q1 => (onCons (fun op z3 => (onCons (fun op' z4 => (onNil (onCons (fun r z5 => (onCons (fun r' z6 => (onNil (cmOf op == some d && cmOf op' == some d' && r_a l && r_b r && r_e r') z6)) z5)) z2) z4)) z3)) z1)) x
noncomputable def k_and (P : Names) (c : Sc) (r_a : Expr → Bool) (r_b : Expr → Bool) : Expr → Bool := fun x => onBoolOp (fun z1 z2 q1 => (onAnd (onCons (fun y z3 => (onCons (fun z z4 => (onNil (r_a y && r_b z) z4)) z3)) z2) z1)) x
noncomputable def k_or (P : Names) (c : Sc) (r_a : Expr → Bool) (r_b : Expr → Bool) : Expr → Bool := fun x => onBoolOp (fun z1 z2 q1 => (onOr (onCons (fun y z3 => (onCons (fun z z4 => (onNil (r_a y && r_b z) z4)) z3)) z2) z1)) x
noncomputable def k_ors (P : Names) (c : Sc) (r_es : List Expr → Bool) : Expr → Bool := fun x => onBoolOp (fun z1 xs q1 => (onOr (r_es xs) z1)) x
noncomputable def k_ite (P : Names) (c : Sc) (r_t : Expr → Bool) (r_a : Expr → Bool) (r_b : Expr → Bool) : Expr → Bool := fun x => onIfExp (fun test body orelse q1 => (r_t test && r_a body && r_b orelse)) x
noncomputable def k_attr (P : Names) (c : Sc) (f : Nat) (r_a : Expr → Bool) : Expr → Bool := fun x => onAttribute (fun y attr q1 => (oEq P.attrs[f]? attr && r_a y && isNm y)) x
noncomputable def k_idx (P : Names) (c : Sc) (r_a : Expr → Bool) (r_b : Expr → Bool) : Expr → Bool := fun x => onSubscript (fun y i q1 => (r_a y && r_b i)) x
noncomputable def k_gidx (P : Names) (c : Sc) (g : Nat) (r_b : Expr → Bool) : Expr → Bool := fun x => onSubscript (fun z1 i q2 => (onName (fun id q1 => (glR c P.gts[g]? id && r_b i)) z1)) x
noncomputable def k_tup (P : Names) (c : Sc) (r_es : List Expr → Bool) : Expr → Bool := fun x => onTuple (fun xs q1 q2 => (r_es xs)) x
noncomputable def k_list (P : Names) (c : Sc) (r_es : List Expr → Bool) : Expr → Bool := fun x => onList (fun xs q1 => (r_es xs)) x
noncomputable def k_rep (P : Names) (c : Sc) (r_a : Expr → Bool) (r_n : Expr → Bool) : Expr → Bool := fun x => onBinOp (fun z1 z2 z q2 => (onList (fun z3 q1 => (onCons (fun y z4 => (onNil (onMult (r_a y && r_n z) z2) z4)) z3)) z1)) x
noncomputable def k_cat (P : Names) (c : Sc) (r_a : Expr → Bool) (r_b : Expr → Bool) : Expr → Bool := fun x => onBinOp (fun y z1 z q1 => (onAdd (r_a y && r_b z) z1)) x
noncomputable def k_take (P : Names) (c : Sc) (n : Nat) (r_a : Expr → Bool) : Expr → Bool := fun x => onSubscript (fun y z1 q4 => (onSlice (fun z2 z3 z4 q3 => (onNone (onSome (fun z5 => (onConstant (fun z6 q1 q2 => (onint (fun k => (onNone (r_a y && k == (n : Int) && isNm y) z4)) z6)) z5)) z3) z2)) z1)) x
noncomputable def k_call (P : Names) (c : Sc) (f : Nat) (r_es : List Expr → Bool) : Expr → Bool := fun x => onCall (fun z1 xs z2 q2 => (onName (fun id q1 => (onNil (glR c P.fns[f]? id && r_es xs && someE xs) z2)) z1)) x
noncomputable def k_new (P : Names) (c : Sc) (r_es : List Expr → Bool) : Expr → Bool := fun x => onCall (fun z1 xs z2 q2 => (onName (fun id q1 => (onNil (glR c (some P.cls) id && r_es xs && someE xs) z2)) z1)) x
noncomputable def k_range (P : Names) (c : Sc) (r_es : List Expr → Bool) : Expr → Bool := fun x => onCall (fun z1 xs z2 q2 => (onName (fun id q1 => (onNil (glR c (some "range") id && r_es xs && someE xs) z2)) z1)) x
noncomputable def k_len (P : Names) (c : Sc) (r_a : Expr → Bool) : Expr → Bool := fun x => onCall (fun z1 z2 z3 q2 => (onName (fun id q1 => (onCons (fun y z4 => (onNil (onNil (glR c (some "len") id && r_a y) z3) z4)) z2)) z1)) x
noncomputable def k_tne (P : Names) (c : Sc) (r_a : Expr → Bool) (r_b : Expr → Bool) : Expr → Bool := fun x => onCompare (fun l z1 z2 q1 => (onCons (fun z3 z4 => (onNotEq (onNil (onCons (fun r z5 => (onNil (r_a l && r_b r) z5)) z2) z4) z3)) z1)) x
noncomputable def cE (P : Names) (c : Sc) (e : E) : Expr → Bool := @E.rec (fun _ => Expr → Bool) (fun _ => List Expr → Bool)
  (fun i => k_lit P c i)
  (fun b => k_tt P c b)
  (k_nul P c)
  (fun k => k_loc P c k)
  (fun g => k_gint P c g)
  (fun o a b i_a i_b => k_bin P c o i_a i_b)
  (fun a i_a => k_neg P c i_a)
  (fun a i_a => k_inv P c i_a)
  (fun d a b i_a i_b => k_cmp P c d i_a i_b)
  (fun d d' a b e i_a i_b i_e => k_chain P c d d' i_a i_b i_e)
  (fun a b i_a i_b => k_and P c i_a i_b)
  (fun a b i_a i_b => k_or P c i_a i_b)
  (fun es i_es => k_ors P c i_es)
  (fun t a b i_t i_a i_b => k_ite P c i_t i_a i_b)
  (fun a f i_a => k_attr P c f i_a)
  (fun a b i_a i_b => k_idx P c i_a i_b)
  (fun g b i_b => k_gidx P c g i_b)
  (fun es i_es => k_tup P c i_es)
  (fun es i_es => k_list P c i_es)
  (fun a n i_a i_n => k_rep P c i_a i_n)
  (fun a b i_a i_b => k_cat P c i_a i_b)
  (fun a n i_a => k_take P c n i_a)
  (fun f es i_es => k_call P c f i_es)
  (fun es i_es => k_new P c i_es)
  (fun es i_es => k_range P c i_es)
  (fun a i_a => k_len P c i_a)
  (fun a b i_a i_b => k_tne P c i_a i_b)
  (onNil true) (fun _ _ i_e i_es => onCons fun x r => i_e x && i_es r) e
noncomputable def cEs (P : Names) (c : Sc) (e : List E) : List Expr → Bool := @E.rec_1 (fun _ => Expr → Bool) (fun _ => List Expr → Bool)
  (fun i => k_lit P c i)
  (fun b => k_tt P c b)
  (k_nul P c)
  (fun k => k_loc P c k)
  (fun g => k_gint P c g)
  (fun o a b i_a i_b => k_bin P c o i_a i_b)
  (fun a i_a => k_neg P c i_a)
  (fun a i_a => k_inv P c i_a)
  (fun d a b i_a i_b => k_cmp P c d i_a i_b)
  (fun d d' a b e i_a i_b i_e => k_chain P c d d' i_a i_b i_e)
  (fun a b i_a i_b => k_and P c i_a i_b)
  (fun a b i_a i_b => k_or P c i_a i_b)
  (fun es i_es => k_ors P c i_es)
  (fun t a b i_t i_a i_b => k_ite P c i_t i_a i_b)
  (fun a f i_a => k_attr P c f i_a)
  (fun a b i_a i_b => k_idx P c i_a i_b)
  (fun g b i_b => k_gidx P c g i_b)
  (fun es i_es => k_tup P c i_es)
  (fun es i_es => k_list P c i_es)
  (fun a n i_a i_n => k_rep P c i_a i_n)
  (fun a b i_a i_b => k_cat P c i_a i_b)
  (fun a n i_a => k_take P c n i_a)
  (fun f es i_es => k_call P c f i_es)
  (fun es i_es => k_new P c i_es)
  (fun es i_es => k_range P c i_es)
  (fun a i_a => k_len P c i_a)
  (fun a b i_a i_b => k_tne P c i_a i_b)
  (onNil true) (fun _ _ i_e i_es => onCons fun x r => i_e x && i_es r) e
noncomputable def kS_asg (P : Names) (c : Sc) (k : Nat) (e : E) : Stmt → Bool := fun x => onAssign (fun z1 v q2 => (onCons (fun z2 z3 => (onName (fun id q1 => (onNil (oEq c.loc[k]? id && cE P c e v) z3)) z2)) z1)) x
noncomputable def kS_aug (P : Names) (c : Sc) (k : Nat) (o : Op) (e : E) : Stmt → Bool := fun x => onAugAssign (fun z1 op v q2 => (onName (fun id q1 => (oEq c.loc[k]? id && opOf op == some o && cE P c e v)) z1)) x
noncomputable def kS_setat (P : Names) (c : Sc) (a : E) (f : Nat) (e : E) : Stmt → Bool := fun x => onAssign (fun z1 v q2 => (onCons (fun z2 z3 => (onAttribute (fun y attr q1 => (onNil (oEq P.attrs[f]? attr && cE P c a y && cE P c e v && isNm y) z3)) z2)) z1)) x
noncomputable def kS_setidx (P : Names) (c : Sc) (a : E) (i : E) (e : E) : Stmt → Bool := fun x => onAssign (fun z1 v q2 => (onCons (fun z2 z3 => (onSubscript (fun y j q1 => (onNil (cE P c a y && cE P c i j && cE P c e v) z3)) z2)) z1)) x
noncomputable def kS_augidx (P : Names) (c : Sc) (a : E) (i : E) (o : Op) (e : E) : Stmt → Bool := fun x => onAugAssign (fun z1 op v q2 => (onSubscript (fun y j q1 => (opOf op == some o && cE P c a y && cE P c i j && cE P c e v)) z1)) x
noncomputable def kS_app (P : Names) (c : Sc) (a : E) (e : E) : Stmt → Bool := fun x => onExpr (fun z1 q1 => (onCall (fun z2 z3 z4 p => (onAttribute (fun y attr ap => (onCons (fun v z5 => (onNil (onNil (Fast.sEq attr ("append" : Str) && cE P c a y && cE P c e v && ap.endLine == p.line && isBase y) z4) z5)) z3)) z2)) z1)) x
noncomputable def kS_expr (P : Names) (c : Sc) (e : E) : Stmt → Bool := fun x => onExpr (fun v q1 => (cE P c e v)) x
noncomputable def kS_ret (P : Names) (c : Sc) (e : E) : Stmt → Bool := fun x => onReturn (fun z1 q1 => (onSome (fun v => (cE P c e v)) z1)) x
noncomputable def kS_ite (P : Names) (c : Sc) (t : E) (r_a : List Stmt → Bool) (r_b : List Stmt → Bool) : Stmt → Bool := fun x => onIf (fun test body orelse q1 => (cE P c t test && r_a body && r_b orelse)) x
noncomputable def kS_while (P : Names) (c : Sc) (t : E) (r_a : List Stmt → Bool) : Stmt → Bool := fun x => onWhile (fun test body z1 q1 => (onNil (cE P c t test && r_a body) z1)) x
noncomputable def kS_for (P : Names) (c : Sc) (k : Nat) (e : E) (r_a : List Stmt → Bool) : Stmt → Bool := fun x => onFor (fun z1 it body z2 q2 => (onName (fun id q1 => (onNil (oEq c.loc[k]? id && cE P c e it && r_a body) z2)) z1)) x
noncomputable def kS_stuck (P : Names) (c : Sc) : Stmt → Bool := fun x => true
noncomputable def cS (P : Names) (c : Sc) (e : S) : Stmt → Bool := @S.rec (fun _ => Stmt → Bool) (fun _ => List Stmt → Bool)
  (fun k e => kS_asg P c k e)
  (fun k o e => kS_aug P c k o e)
  (fun a f e => kS_setat P c a f e)
  (fun a i e => kS_setidx P c a i e)
  (fun a i o e => kS_augidx P c a i o e)
  (fun a e => kS_app P c a e)
  (fun e => kS_expr P c e)
  (fun e => kS_ret P c e)
  (fun t a b i_a i_b => kS_ite P c t i_a i_b)
  (fun t a i_a => kS_while P c t i_a)
  (fun k e a i_a => kS_for P c k e i_a)
  (kS_stuck P c)
  (onNil true) (fun _ _ i_e i_es => onCons fun x r => i_e x && i_es r) e
noncomputable def cSs (P : Names) (c : Sc) (e : List S) : List Stmt → Bool := @S.rec_1 (fun _ => Stmt → Bool) (fun _ => List Stmt → Bool)
  (fun k e => kS_asg P c k e)
  (fun k o e => kS_aug P c k o e)
  (fun a f e => kS_setat P c a f e)
  (fun a i e => kS_setidx P c a i e)
  (fun a i o e => kS_augidx P c a i o e)
  (fun a e => kS_app P c a e)
  (fun e => kS_expr P c e)
  (fun e => kS_ret P c e)
  (fun t a b i_a i_b => kS_ite P c t i_a i_b)
  (fun t a i_a => kS_while P c t i_a)
  (fun k e a i_a => kS_for P c k e i_a)
  (kS_stuck P c)
  (onNil true) (fun _ _ i_e i_es => onCons fun x r => i_e x && i_es r) e
theorem cEs_nil {P : Names} {c : Sc} {x : List Expr} (h : cEs P c [] x = true) : x = [] := onNil_inv (Q := fun x => x = []) h fun _ => rfl
theorem cEs_cons {P : Names} {c : Sc} {e : E} {es : List E} {x : List Expr} {Q : List Expr → Prop} (h : cEs P c (e :: es) x = true) (q : ∀ a r, cE P c e a = true → cEs P c es r = true → Q (a :: r)) : Q x :=
  onCons_inv h fun a r h => q a r (Bool.and_eq_true_iff.mp h).1 (Bool.and_eq_true_iff.mp h).2
theorem cSs_nil {P : Names} {c : Sc} {x : List Stmt} (h : cSs P c [] x = true) : x = [] := onNil_inv (Q := fun x => x = []) h fun _ => rfl
theorem cSs_cons {P : Names} {c : Sc} {e : S} {es : List S} {x : List Stmt} {Q : List Stmt → Prop} (h : cSs P c (e :: es) x = true) (q : ∀ a r, cS P c e a = true → cSs P c es r = true → Q (a :: r)) : Q x :=
  onCons_inv h fun a r h => q a r (Bool.and_eq_true_iff.mp h).1 (Bool.and_eq_true_iff.mp h).2
theorem cE_lit {P : Names} {c : Sc} {x : Expr} {i} (h : cE P c (.lit i) x = true) : ∃ j q1 q2, x = .Constant (.int j) q1 q2 ∧ (i == j) = true :=
  let Q : Expr → Prop := fun yy => ∃ j q1 q2, yy = .Constant (.int j) q1 q2 ∧ (i == j) = true
  onConstant_inv (Q := fun x => Q (x)) h fun z1 q1 q2 h => onint_inv (Q := fun z1 => Q ((.Constant z1 q1 q2))) h fun j h => ⟨j, q1, q2, rfl, h⟩
theorem cE_tt {P : Names} {c : Sc} {x : Expr} {b} (h : cE P c (.tt b) x = true) : ∃ d q1 q2, x = .Constant (.bool d) q1 q2 ∧ (b == d) = true :=
  let Q : Expr → Prop := fun yy => ∃ d q1 q2, yy = .Constant (.bool d) q1 q2 ∧ (b == d) = true
  onConstant_inv (Q := fun x => Q (x)) h fun z1 q1 q2 h => onbool_inv (Q := fun z1 => Q ((.Constant z1 q1 q2))) h fun d h => ⟨d, q1, q2, rfl, h⟩
theorem cE_nul {P : Names} {c : Sc} {x : Expr} (h : cE P c (.nul) x = true) : ∃ q1 q2, x = .Constant .none q1 q2 ∧ (true) = true :=
  let Q : Expr → Prop := fun yy => ∃ q1 q2, yy = .Constant .none q1 q2 ∧ (true) = true
  onConstant_inv (Q := fun x => Q (x)) h fun z1 q1 q2 h => onnone_inv (Q := fun z1 => Q ((.Constant z1 q1 q2))) h fun h => ⟨q1, q2, rfl, h⟩
theorem cE_loc {P : Names} {c : Sc} {x : Expr} {k} (h : cE P c (.loc k) x = true) : ∃ id q1, x = .Name id q1 ∧ (c.loc[k]? == some id) = true :=
  let Q : Expr → Prop := fun yy => ∃ id q1, yy = .Name id q1 ∧ (c.loc[k]? == some id) = true
  onName_inv (Q := fun x => Q (x)) h fun id q1 h => ⟨id, q1, rfl, by have h : (oEq c.loc[k]? id) = true := h; simpa only [oEq_eq, glR_eq, sEq_beq] using h⟩
theorem cE_gint {P : Names} {c : Sc} {x : Expr} {g} (h : cE P c (.gint g) x = true) : ∃ id q1, x = .Name id q1 ∧ (gl c P.gis[g]? id) = true :=
  let Q : Expr → Prop := fun yy => ∃ id q1, yy = .Name id q1 ∧ (gl c P.gis[g]? id) = true
  onName_inv (Q := fun x => Q (x)) h fun id q1 h => ⟨id, q1, rfl, by have h : (glR c P.gis[g]? id) = true := h; simpa only [oEq_eq, glR_eq, sEq_beq] using h⟩
theorem cE_bin {P : Names} {c : Sc} {x : Expr} {o} {a} {b} (h : cE P c (.bin o a b) x = true) : ∃ l op r q1, x = .BinOp l op r q1 ∧ (opOf op == some o && cE P c a l && cE P c b r) = true :=
  let Q : Expr → Prop := fun yy => ∃ l op r q1, yy = .BinOp l op r q1 ∧ (opOf op == some o && cE P c a l && cE P c b r) = true
  onBinOp_inv (Q := fun x => Q (x)) h fun l op r q1 h => ⟨l, op, r, q1, rfl, h⟩
theorem cE_neg {P : Names} {c : Sc} {x : Expr} {a} (h : cE P c (.neg a) x = true) : ∃ y q1, x = .UnaryOp .USub y q1 ∧ (cE P c a y) = true :=
  let Q : Expr → Prop := fun yy => ∃ y q1, yy = .UnaryOp .USub y q1 ∧ (cE P c a y) = true
  onUnaryOp_inv (Q := fun x => Q (x)) h fun z1 y q1 h => onUSub_inv (Q := fun z1 => Q ((.UnaryOp z1 y q1))) h fun h => ⟨y, q1, rfl, h⟩
theorem cE_inv {P : Names} {c : Sc} {x : Expr} {a} (h : cE P c (.inv a) x = true) : ∃ y q1, x = .UnaryOp .Invert y q1 ∧ (cE P c a y) = true :=
  let Q : Expr → Prop := fun yy => ∃ y q1, yy = .UnaryOp .Invert y q1 ∧ (cE P c a y) = true
  onUnaryOp_inv (Q := fun x => Q (x)) h fun z1 y q1 h => onInvert_inv (Q := fun z1 => Q ((.UnaryOp z1 y q1))) h fun h => ⟨y, q1, rfl, h⟩
theorem cE_cmp {P : Names} {c : Sc} {x : Expr} {d} {a} {b} (h : cE P c (.cmp d a b) x = true) : ∃ l op r q1, x = .Compare l [op] [r] q1 ∧ (cmOf op == some d && cE P c a l && cE P c b r) = true :=
  let Q : Expr → Prop := fun yy => ∃ l op r q1, yy = .Compare l [op] [r] q1 ∧ (cmOf op == some d && cE P c a l && cE P c b r) = true
  onCompare_inv (Q := fun x => Q (x)) h fun l z1 z2 q1 h => onCons_inv (Q := fun z1 => Q ((.Compare l z1 z2 q1))) h fun op z3 h => onNil_inv (Q := fun z3 => Q ((.Compare l (op :: z3) z2 q1))) h fun h => onCons_inv (Q := fun z2 => Q ((.Compare l (op :: []) z2 q1))) h fun r z4 h => onNil_inv (Q := fun z4 => Q ((.Compare l (op :: []) (r :: z4) q1))) h fun h => ⟨l, op, r, q1, rfl, h⟩
theorem cE_chain {P : Names} {c : Sc} {x : Expr} {d} {d'} {a} {b} {e} (h : cE P c (.chain d d' a b e) x = true) : ∃ l op op' r r' q1, x = .Compare l [op, op'] [r, r'] q1 ∧ (cmOf op == some d && cmOf op' == some d' && cE P c a l && cE P c b r && cE P c e r') = true :=
  let Q : Expr → Prop := fun yy => ∃ l op op' r r' q1, yy = .Compare l [op, op'] [r, r'] q1 ∧ (cmOf op == some d && cmOf op' == some d' && cE P c a l && cE P c b r && cE P c e r') = true
  onCompare_inv (Q := fun x => Q (x)) h fun l z1 z2 q1 h => onCons_inv (Q := fun z1 => Q ((.Compare l z1 z2 q1))) h fun op z3 h => onCons_inv (Q := fun z3 => Q ((.Compare l (op :: z3) z2 q1))) h fun op' z4 h => onNil_inv (Q := fun z4 => Q ((.Compare l (op :: (op' :: z4)) z2 q1))) h fun h => onCons_inv (Q := fun z2 => Q ((.Compare l (op :: (op' :: [])) z2 q1))) h fun r z5 h => onCons_inv (Q := fun z5 => Q ((.Compare l (op :: (op' :: [])) (r :: z5) q1))) h fun r' z6 h => onNil_inv (Q := fun z6 => Q ((.Compare l (op :: (op' :: [])) (r :: (r' :: z6)) q1))) h fun h => ⟨l, op, op', r, r', q1, rfl, h⟩
theorem cE_and {P : Names} {c : Sc} {x : Expr} {a} {b} (h : cE P c (.and a b) x = true) : ∃ y z q1, x = .BoolOp .And [y, z] q1 ∧ (cE P c a y && cE P c b z) = true :=
  let Q : Expr → Prop := fun yy => ∃ y z q1, yy = .BoolOp .And [y, z] q1 ∧ (cE P c a y && cE P c b z) = true
  onBoolOp_inv (Q := fun x => Q (x)) h fun z1 z2 q1 h => onAnd_inv (Q := fun z1 => Q ((.BoolOp z1 z2 q1))) h fun h => onCons_inv (Q := fun z2 => Q ((.BoolOp (.And) z2 q1))) h fun y z3 h => onCons_inv (Q := fun z3 => Q ((.BoolOp (.And) (y :: z3) q1))) h fun z z4 h => onNil_inv (Q := fun z4 => Q ((.BoolOp (.And) (y :: (z :: z4)) q1))) h fun h => ⟨y, z, q1, rfl, h⟩
theorem cE_or {P : Names} {c : Sc} {x : Expr} {a} {b} (h : cE P c (.or a b) x = true) : ∃ y z q1, x = .BoolOp .Or [y, z] q1 ∧ (cE P c a y && cE P c b z) = true :=
  let Q : Expr → Prop := fun yy => ∃ y z q1, yy = .BoolOp .Or [y, z] q1 ∧ (cE P c a y && cE P c b z) = true
  onBoolOp_inv (Q := fun x => Q (x)) h fun z1 z2 q1 h => onOr_inv (Q := fun z1 => Q ((.BoolOp z1 z2 q1))) h fun h => onCons_inv (Q := fun z2 => Q ((.BoolOp (.Or) z2 q1))) h fun y z3 h => onCons_inv (Q := fun z3 => Q ((.BoolOp (.Or) (y :: z3) q1))) h fun z z4 h => onNil_inv (Q := fun z4 => Q ((.BoolOp (.Or) (y :: (z :: z4)) q1))) h fun h => ⟨y, z, q1, rfl, h⟩
theorem cE_ors {P : Names} {c : Sc} {x : Expr} {es} (h : cE P c (.ors es) x = true) : ∃ xs q1, x = .BoolOp .Or xs q1 ∧ (cEs P c es xs) = true :=
  let Q : Expr → Prop := fun yy => ∃ xs q1, yy = .BoolOp .Or xs q1 ∧ (cEs P c es xs) = true
  onBoolOp_inv (Q := fun x => Q (x)) h fun z1 xs q1 h => onOr_inv (Q := fun z1 => Q ((.BoolOp z1 xs q1))) h fun h => ⟨xs, q1, rfl, h⟩
theorem cE_ite {P : Names} {c : Sc} {x : Expr} {t} {a} {b} (h : cE P c (.ite t a b) x = true) : ∃ test body orelse q1, x = .IfExp test body orelse q1 ∧ (cE P c t test && cE P c a body && cE P c b orelse) = true :=
  let Q : Expr → Prop := fun yy => ∃ test body orelse q1, yy = .IfExp test body orelse q1 ∧ (cE P c t test && cE P c a body && cE P c b orelse) = true
  onIfExp_inv (Q := fun x => Q (x)) h fun test body orelse q1 h => ⟨test, body, orelse, q1, rfl, h⟩
theorem cE_attr {P : Names} {c : Sc} {x : Expr} {a} {f} (h : cE P c (.attr a f) x = true) : ∃ y attr q1, x = .Attribute y attr q1 ∧ (P.attrs[f]? == some attr && cE P c a y && isNm y) = true :=
  let Q : Expr → Prop := fun yy => ∃ y attr q1, yy = .Attribute y attr q1 ∧ (P.attrs[f]? == some attr && cE P c a y && isNm y) = true
  onAttribute_inv (Q := fun x => Q (x)) h fun y attr q1 h => ⟨y, attr, q1, rfl, by have h : (oEq P.attrs[f]? attr && cE P c a y && isNm y) = true := h; simpa only [oEq_eq, glR_eq, sEq_beq] using h⟩
theorem cE_idx {P : Names} {c : Sc} {x : Expr} {a} {b} (h : cE P c (.idx a b) x = true) : ∃ y i q1, x = .Subscript y i q1 ∧ (cE P c a y && cE P c b i) = true :=
  let Q : Expr → Prop := fun yy => ∃ y i q1, yy = .Subscript y i q1 ∧ (cE P c a y && cE P c b i) = true
  onSubscript_inv (Q := fun x => Q (x)) h fun y i q1 h => ⟨y, i, q1, rfl, h⟩
theorem cE_gidx {P : Names} {c : Sc} {x : Expr} {g} {b} (h : cE P c (.gidx g b) x = true) : ∃ id q1 i q2, x = .Subscript (.Name id q1) i q2 ∧ (gl c P.gts[g]? id && cE P c b i) = true :=
  let Q : Expr → Prop := fun yy => ∃ id q1 i q2, yy = .Subscript (.Name id q1) i q2 ∧ (gl c P.gts[g]? id && cE P c b i) = true
  onSubscript_inv (Q := fun x => Q (x)) h fun z1 i q2 h => onName_inv (Q := fun z1 => Q ((.Subscript z1 i q2))) h fun id q1 h => ⟨id, q1, i, q2, rfl, by have h : (glR c P.gts[g]? id && cE P c b i) = true := h; simpa only [oEq_eq, glR_eq, sEq_beq] using h⟩
theorem cE_tup {P : Names} {c : Sc} {x : Expr} {es} (h : cE P c (.tup es) x = true) : ∃ xs q1 q2, x = .Tuple xs q1 q2 ∧ (cEs P c es xs) = true :=
  let Q : Expr → Prop := fun yy => ∃ xs q1 q2, yy = .Tuple xs q1 q2 ∧ (cEs P c es xs) = true
  onTuple_inv (Q := fun x => Q (x)) h fun xs q1 q2 h => ⟨xs, q1, q2, rfl, h⟩
theorem cE_list {P : Names} {c : Sc} {x : Expr} {es} (h : cE P c (.list es) x = true) : ∃ xs q1, x = .List xs q1 ∧ (cEs P c es xs) = true :=
  let Q : Expr → Prop := fun yy => ∃ xs q1, yy = .List xs q1 ∧ (cEs P c es xs) = true
  onList_inv (Q := fun x => Q (x)) h fun xs q1 h => ⟨xs, q1, rfl, h⟩
theorem cE_rep {P : Names} {c : Sc} {x : Expr} {a} {n} (h : cE P c (.rep a n) x = true) : ∃ y q1 z q2, x = .BinOp (.List [y] q1) .Mult z q2 ∧ (cE P c a y && cE P c n z) = true :=
  let Q : Expr → Prop := fun yy => ∃ y q1 z q2, yy = .BinOp (.List [y] q1) .Mult z q2 ∧ (cE P c a y && cE P c n z) = true
  onBinOp_inv (Q := fun x => Q (x)) h fun z1 z2 z q2 h => onList_inv (Q := fun z1 => Q ((.BinOp z1 z2 z q2))) h fun z3 q1 h => onCons_inv (Q := fun z3 => Q ((.BinOp (.List z3 q1) z2 z q2))) h fun y z4 h => onNil_inv (Q := fun z4 => Q ((.BinOp (.List (y :: z4) q1) z2 z q2))) h fun h => onMult_inv (Q := fun z2 => Q ((.BinOp (.List (y :: []) q1) z2 z q2))) h fun h => ⟨y, q1, z, q2, rfl, h⟩
theorem cE_cat {P : Names} {c : Sc} {x : Expr} {a} {b} (h : cE P c (.cat a b) x = true) : ∃ y z q1, x = .BinOp y .Add z q1 ∧ (cE P c a y && cE P c b z) = true :=
  let Q : Expr → Prop := fun yy => ∃ y z q1, yy = .BinOp y .Add z q1 ∧ (cE P c a y && cE P c b z) = true
  onBinOp_inv (Q := fun x => Q (x)) h fun y z1 z q1 h => onAdd_inv (Q := fun z1 => Q ((.BinOp y z1 z q1))) h fun h => ⟨y, z, q1, rfl, h⟩
theorem cE_take {P : Names} {c : Sc} {x : Expr} {a} {n} (h : cE P c (.take a n) x = true) : ∃ y k q1 q2 q3 q4, x = .Subscript y (.Slice none (some (.Constant (.int k) q1 q2)) none q3) q4 ∧ (cE P c a y && k == (n : Int) && isNm y) = true :=
  let Q : Expr → Prop := fun yy => ∃ y k q1 q2 q3 q4, yy = .Subscript y (.Slice none (some (.Constant (.int k) q1 q2)) none q3) q4 ∧ (cE P c a y && k == (n : Int) && isNm y) = true
  onSubscript_inv (Q := fun x => Q (x)) h fun y z1 q4 h => onSlice_inv (Q := fun z1 => Q ((.Subscript y z1 q4))) h fun z2 z3 z4 q3 h => onNone_inv (Q := fun z2 => Q ((.Subscript y (.Slice z2 z3 z4 q3) q4))) h fun h => onSome_inv (Q := fun z3 => Q ((.Subscript y (.Slice none z3 z4 q3) q4))) h fun z5 h => onConstant_inv (Q := fun z5 => Q ((.Subscript y (.Slice none (some z5) z4 q3) q4))) h fun z6 q1 q2 h => onint_inv (Q := fun z6 => Q ((.Subscript y (.Slice none (some (.Constant z6 q1 q2)) z4 q3) q4))) h fun k h => onNone_inv (Q := fun z4 => Q ((.Subscript y (.Slice none (some (.Constant (.int k) q1 q2)) z4 q3) q4))) h fun h => ⟨y, k, q1, q2, q3, q4, rfl, h⟩
theorem cE_call {P : Names} {c : Sc} {x : Expr} {f} {es} (h : cE P c (.call f es) x = true) : ∃ id q1 xs q2, x = .Call (.Name id q1) xs [] q2 ∧ (gl c P.fns[f]? id && cEs P c es xs && someE xs) = true :=
  let Q : Expr → Prop := fun yy => ∃ id q1 xs q2, yy = .Call (.Name id q1) xs [] q2 ∧ (gl c P.fns[f]? id && cEs P c es xs && someE xs) = true
  onCall_inv (Q := fun x => Q (x)) h fun z1 xs z2 q2 h => onName_inv (Q := fun z1 => Q ((.Call z1 xs z2 q2))) h fun id q1 h => onNil_inv (Q := fun z2 => Q ((.Call (.Name id q1) xs z2 q2))) h fun h => ⟨id, q1, xs, q2, rfl, by have h : (glR c P.fns[f]? id && cEs P c es xs && someE xs) = true := h; simpa only [oEq_eq, glR_eq, sEq_beq] using h⟩
theorem cE_new {P : Names} {c : Sc} {x : Expr} {es} (h : cE P c (.new es) x = true) : ∃ id q1 xs q2, x = .Call (.Name id q1) xs [] q2 ∧ (gl c (some P.cls) id && cEs P c es xs && someE xs) = true :=
  let Q : Expr → Prop := fun yy => ∃ id q1 xs q2, yy = .Call (.Name id q1) xs [] q2 ∧ (gl c (some P.cls) id && cEs P c es xs && someE xs) = true
  onCall_inv (Q := fun x => Q (x)) h fun z1 xs z2 q2 h => onName_inv (Q := fun z1 => Q ((.Call z1 xs z2 q2))) h fun id q1 h => onNil_inv (Q := fun z2 => Q ((.Call (.Name id q1) xs z2 q2))) h fun h => ⟨id, q1, xs, q2, rfl, by have h : (glR c (some P.cls) id && cEs P c es xs && someE xs) = true := h; simpa only [oEq_eq, glR_eq, sEq_beq] using h⟩
theorem cE_range {P : Names} {c : Sc} {x : Expr} {es} (h : cE P c (.range es) x = true) : ∃ id q1 xs q2, x = .Call (.Name id q1) xs [] q2 ∧ (gl c (some "range") id && cEs P c es xs && someE xs) = true :=
  let Q : Expr → Prop := fun yy => ∃ id q1 xs q2, yy = .Call (.Name id q1) xs [] q2 ∧ (gl c (some "range") id && cEs P c es xs && someE xs) = true
  onCall_inv (Q := fun x => Q (x)) h fun z1 xs z2 q2 h => onName_inv (Q := fun z1 => Q ((.Call z1 xs z2 q2))) h fun id q1 h => onNil_inv (Q := fun z2 => Q ((.Call (.Name id q1) xs z2 q2))) h fun h => ⟨id, q1, xs, q2, rfl, by have h : (glR c (some "range") id && cEs P c es xs && someE xs) = true := h; simpa only [oEq_eq, glR_eq, sEq_beq] using h⟩
theorem cE_len {P : Names} {c : Sc} {x : Expr} {a} (h : cE P c (.len a) x = true) : ∃ id q1 y q2, x = .Call (.Name id q1) [y] [] q2 ∧ (gl c (some "len") id && cE P c a y) = true :=
  let Q : Expr → Prop := fun yy => ∃ id q1 y q2, yy = .Call (.Name id q1) [y] [] q2 ∧ (gl c (some "len") id && cE P c a y) = true
  onCall_inv (Q := fun x => Q (x)) h fun z1 z2 z3 q2 h => onName_inv (Q := fun z1 => Q ((.Call z1 z2 z3 q2))) h fun id q1 h => onCons_inv (Q := fun z2 => Q ((.Call (.Name id q1) z2 z3 q2))) h fun y z4 h => onNil_inv (Q := fun z4 => Q ((.Call (.Name id q1) (y :: z4) z3 q2))) h fun h => onNil_inv (Q := fun z3 => Q ((.Call (.Name id q1) (y :: []) z3 q2))) h fun h => ⟨id, q1, y, q2, rfl, by have h : (glR c (some "len") id && cE P c a y) = true := h; simpa only [oEq_eq, glR_eq, sEq_beq] using h⟩
theorem cE_tne {P : Names} {c : Sc} {x : Expr} {a} {b} (h : cE P c (.tne a b) x = true) : ∃ l r q1, x = .Compare l [.NotEq] [r] q1 ∧ (cE P c a l && cE P c b r) = true :=
  let Q : Expr → Prop := fun yy => ∃ l r q1, yy = .Compare l [.NotEq] [r] q1 ∧ (cE P c a l && cE P c b r) = true
  onCompare_inv (Q := fun x => Q (x)) h fun l z1 z2 q1 h => onCons_inv (Q := fun z1 => Q ((.Compare l z1 z2 q1))) h fun z3 z4 h => onNotEq_inv (Q := fun z3 => Q ((.Compare l (z3 :: z4) z2 q1))) h fun h => onNil_inv (Q := fun z4 => Q ((.Compare l ((.NotEq) :: z4) z2 q1))) h fun h => onCons_inv (Q := fun z2 => Q ((.Compare l ((.NotEq) :: []) z2 q1))) h fun r z5 h => onNil_inv (Q := fun z5 => Q ((.Compare l ((.NotEq) :: []) (r :: z5) q1))) h fun h => ⟨l, r, q1, rfl, h⟩
theorem cS_asg {P : Names} {c : Sc} {x : Stmt} {k} {e} (h : cS P c (.asg k e) x = true) : ∃ id q1 v q2, x = .Assign [.Name id q1] v q2 ∧ (c.loc[k]? == some id && cE P c e v) = true :=
  let Q : Stmt → Prop := fun yy => ∃ id q1 v q2, yy = .Assign [.Name id q1] v q2 ∧ (c.loc[k]? == some id && cE P c e v) = true
  onAssign_inv (Q := fun x => Q (x)) h fun z1 v q2 h => onCons_inv (Q := fun z1 => Q ((.Assign z1 v q2))) h fun z2 z3 h => onName_inv (Q := fun z2 => Q ((.Assign (z2 :: z3) v q2))) h fun id q1 h => onNil_inv (Q := fun z3 => Q ((.Assign ((.Name id q1) :: z3) v q2))) h fun h => ⟨id, q1, v, q2, rfl, by have h : (oEq c.loc[k]? id && cE P c e v) = true := h; simpa only [oEq_eq, glR_eq, sEq_beq] using h⟩
theorem cS_aug {P : Names} {c : Sc} {x : Stmt} {k} {o} {e} (h : cS P c (.aug k o e) x = true) : ∃ id q1 op v q2, x = .AugAssign (.Name id q1) op v q2 ∧ (c.loc[k]? == some id && opOf op == some o && cE P c e v) = true :=
  let Q : Stmt → Prop := fun yy => ∃ id q1 op v q2, yy = .AugAssign (.Name id q1) op v q2 ∧ (c.loc[k]? == some id && opOf op == some o && cE P c e v) = true
  onAugAssign_inv (Q := fun x => Q (x)) h fun z1 op v q2 h => onName_inv (Q := fun z1 => Q ((.AugAssign z1 op v q2))) h fun id q1 h => ⟨id, q1, op, v, q2, rfl, by have h : (oEq c.loc[k]? id && opOf op == some o && cE P c e v) = true := h; simpa only [oEq_eq, glR_eq, sEq_beq] using h⟩
theorem cS_setat {P : Names} {c : Sc} {x : Stmt} {a} {f} {e} (h : cS P c (.setat a f e) x = true) : ∃ y attr q1 v q2, x = .Assign [.Attribute y attr q1] v q2 ∧ (P.attrs[f]? == some attr && cE P c a y && cE P c e v && isNm y) = true :=
  let Q : Stmt → Prop := fun yy => ∃ y attr q1 v q2, yy = .Assign [.Attribute y attr q1] v q2 ∧ (P.attrs[f]? == some attr && cE P c a y && cE P c e v && isNm y) = true
  onAssign_inv (Q := fun x => Q (x)) h fun z1 v q2 h => onCons_inv (Q := fun z1 => Q ((.Assign z1 v q2))) h fun z2 z3 h => onAttribute_inv (Q := fun z2 => Q ((.Assign (z2 :: z3) v q2))) h fun y attr q1 h => onNil_inv (Q := fun z3 => Q ((.Assign ((.Attribute y attr q1) :: z3) v q2))) h fun h => ⟨y, attr, q1, v, q2, rfl, by have h : (oEq P.attrs[f]? attr && cE P c a y && cE P c e v && isNm y) = true := h; simpa only [oEq_eq, glR_eq, sEq_beq] using h⟩
theorem cS_setidx {P : Names} {c : Sc} {x : Stmt} {a} {i} {e} (h : cS P c (.setidx a i e) x = true) : ∃ y j q1 v q2, x = .Assign [.Subscript y j q1] v q2 ∧ (cE P c a y && cE P c i j && cE P c e v) = true :=
  let Q : Stmt → Prop := fun yy => ∃ y j q1 v q2, yy = .Assign [.Subscript y j q1] v q2 ∧ (cE P c a y && cE P c i j && cE P c e v) = true
  onAssign_inv (Q := fun x => Q (x)) h fun z1 v q2 h => onCons_inv (Q := fun z1 => Q ((.Assign z1 v q2))) h fun z2 z3 h => onSubscript_inv (Q := fun z2 => Q ((.Assign (z2 :: z3) v q2))) h fun y j q1 h => onNil_inv (Q := fun z3 => Q ((.Assign ((.Subscript y j q1) :: z3) v q2))) h fun h => ⟨y, j, q1, v, q2, rfl, h⟩
theorem cS_augidx {P : Names} {c : Sc} {x : Stmt} {a} {i} {o} {e} (h : cS P c (.augidx a i o e) x = true) : ∃ y j q1 op v q2, x = .AugAssign (.Subscript y j q1) op v q2 ∧ (opOf op == some o && cE P c a y && cE P c i j && cE P c e v) = true :=
  let Q : Stmt → Prop := fun yy => ∃ y j q1 op v q2, yy = .AugAssign (.Subscript y j q1) op v q2 ∧ (opOf op == some o && cE P c a y && cE P c i j && cE P c e v) = true
  onAugAssign_inv (Q := fun x => Q (x)) h fun z1 op v q2 h => onSubscript_inv (Q := fun z1 => Q ((.AugAssign z1 op v q2))) h fun y j q1 h => ⟨y, j, q1, op, v, q2, rfl, h⟩
theorem cS_app {P : Names} {c : Sc} {x : Stmt} {a} {e} (h : cS P c (.app a e) x = true) : ∃ y attr ap v p q1, x = .Expr (.Call (.Attribute y attr ap) [v] [] p) q1 ∧ (attr == ("append" : Str) && cE P c a y && cE P c e v && ap.endLine == p.line && isBase y) = true :=
  let Q : Stmt → Prop := fun yy => ∃ y attr ap v p q1, yy = .Expr (.Call (.Attribute y attr ap) [v] [] p) q1 ∧ (attr == ("append" : Str) && cE P c a y && cE P c e v && ap.endLine == p.line && isBase y) = true
  onExpr_inv (Q := fun x => Q (x)) h fun z1 q1 h => onCall_inv (Q := fun z1 => Q ((.Expr z1 q1))) h fun z2 z3 z4 p h => onAttribute_inv (Q := fun z2 => Q ((.Expr (.Call z2 z3 z4 p) q1))) h fun y attr ap h => onCons_inv (Q := fun z3 => Q ((.Expr (.Call (.Attribute y attr ap) z3 z4 p) q1))) h fun v z5 h => onNil_inv (Q := fun z5 => Q ((.Expr (.Call (.Attribute y attr ap) (v :: z5) z4 p) q1))) h fun h => onNil_inv (Q := fun z4 => Q ((.Expr (.Call (.Attribute y attr ap) (v :: []) z4 p) q1))) h fun h => ⟨y, attr, ap, v, p, q1, rfl, by have h : (Fast.sEq attr ("append" : Str) && cE P c a y && cE P c e v && ap.endLine == p.line && isBase y) = true := h; simpa only [oEq_eq, glR_eq, sEq_beq] using h⟩
theorem cS_expr {P : Names} {c : Sc} {x : Stmt} {e} (h : cS P c (.expr e) x = true) : ∃ v q1, x = .Expr v q1 ∧ (cE P c e v) = true :=
  let Q : Stmt → Prop := fun yy => ∃ v q1, yy = .Expr v q1 ∧ (cE P c e v) = true
  onExpr_inv (Q := fun x => Q (x)) h fun v q1 h => ⟨v, q1, rfl, h⟩
theorem cS_ret {P : Names} {c : Sc} {x : Stmt} {e} (h : cS P c (.ret e) x = true) : ∃ v q1, x = .Return (some v) q1 ∧ (cE P c e v) = true :=
  let Q : Stmt → Prop := fun yy => ∃ v q1, yy = .Return (some v) q1 ∧ (cE P c e v) = true
  onReturn_inv (Q := fun x => Q (x)) h fun z1 q1 h => onSome_inv (Q := fun z1 => Q ((.Return z1 q1))) h fun v h => ⟨v, q1, rfl, h⟩
theorem cS_ite {P : Names} {c : Sc} {x : Stmt} {t} {a} {b} (h : cS P c (.ite t a b) x = true) : ∃ test body orelse q1, x = .If test body orelse q1 ∧ (cE P c t test && cSs P c a body && cSs P c b orelse) = true :=
  let Q : Stmt → Prop := fun yy => ∃ test body orelse q1, yy = .If test body orelse q1 ∧ (cE P c t test && cSs P c a body && cSs P c b orelse) = true
  onIf_inv (Q := fun x => Q (x)) h fun test body orelse q1 h => ⟨test, body, orelse, q1, rfl, h⟩
theorem cS_while {P : Names} {c : Sc} {x : Stmt} {t} {a} (h : cS P c (.while t a) x = true) : ∃ test body q1, x = .While test body [] q1 ∧ (cE P c t test && cSs P c a body) = true :=
  let Q : Stmt → Prop := fun yy => ∃ test body q1, yy = .While test body [] q1 ∧ (cE P c t test && cSs P c a body) = true
  onWhile_inv (Q := fun x => Q (x)) h fun test body z1 q1 h => onNil_inv (Q := fun z1 => Q ((.While test body z1 q1))) h fun h => ⟨test, body, q1, rfl, h⟩
theorem cS_for {P : Names} {c : Sc} {x : Stmt} {k} {e} {a} (h : cS P c (.for k e a) x = true) : ∃ id q1 it body q2, x = .For (.Name id q1) it body [] q2 ∧ (c.loc[k]? == some id && cE P c e it && cSs P c a body) = true :=
  let Q : Stmt → Prop := fun yy => ∃ id q1 it body q2, yy = .For (.Name id q1) it body [] q2 ∧ (c.loc[k]? == some id && cE P c e it && cSs P c a body) = true
  onFor_inv (Q := fun x => Q (x)) h fun z1 it body z2 q2 h => onName_inv (Q := fun z1 => Q ((.For z1 it body z2 q2))) h fun id q1 h => onNil_inv (Q := fun z2 => Q ((.For (.Name id q1) it body z2 q2))) h fun h => ⟨id, q1, it, body, q2, rfl, by have h : (oEq c.loc[k]? id && cE P c e it && cSs P c a body) = true := h; simpa only [oEq_eq, glR_eq, sEq_beq] using h⟩

/-! what stands for what -/

noncomputable def VR (hb : Heap) (ad : List Addr) : V → Value → Prop
  | .int i, v => ∃ t, v = .int i t
  | .bool b, v => v = .bool b
  | .nul, v => v = .none
  | .ref i, v => ∃ a, ad[i]? = some a ∧ v = .ref a
  | .ext ns, v => ∃ a vals, v = .ref a ∧ hb.IsList a vals.toArray ∧ IntsAre vals ns ∧ vals.length ≤ 1000000

inductive VRs (hb : Heap) (ad : List Addr) : List V → List Value → Prop where
  | nil : VRs hb ad [] []
  | cons {v : V} {x : Value} {vs : List V} {xs : List Value} : VR hb ad v x → VRs hb ad vs xs → VRs hb ad (v :: vs) (x :: xs)

inductive DR (hb : Heap) (ad : List Addr) : List Str → List V → List DictEntry → Prop where
  | nil {ns : List Str} : DR hb ad ns [] []
  | cons {n : Str} {ns : List Str} {v : V} {vs : List V} {hsh : Int} {t : Tok} {x : Value} {es : List DictEntry} :
      VR hb ad v x → DR hb ad ns vs es → DR hb ad (n :: ns) (v :: vs) (⟨hsh, .str n t, x⟩ :: es)

noncomputable def OR (C : Addr) (names : List Str) (hb : Heap) (ad : List Addr) : O → Obj → Prop
  | .list vs, o => ∃ vals n, o = { cls := .type "list", data := .seq vals.toArray n } ∧ VRs hb ad vs vals
  | .tup vs, o => ∃ vals n, o = { cls := .type "tuple", data := .seq vals.toArray n } ∧ VRs hb ad vs vals
  | .inst d, o => ∃ dx, ad[d]? = some dx ∧ o = instObj C dx
  | .dict vs, o => ∃ es n, o = dictOf es n ∧ DR hb ad names vs es
  | .range a b c, o => ∃ t u v, o = { cls := .type "range", data := .fields #[.int a t, .int b u, .int c v] } ∧ rangeOk a b c = true

section mono
variable {C : Addr} {names : List Str} {hb : Heap} {ad ad' : List Addr}
theorem pre_get {i : Nat} {a : Addr} (p : ad <+: ad') (h : ad[i]? = some a) : ad'[i]? = some a := by
  obtain ⟨t, rfl⟩ := p
  rw [List.getElem?_append_left]
  · exact h
  · exact (List.getElem?_eq_some_iff.mp h).1
theorem VR.mono {v : V} {x : Value} (p : ad <+: ad') (h : VR hb ad v x) : VR hb ad' v x := by
  cases v with
  | ref i => obtain ⟨a, e, r⟩ := h; exact ⟨a, pre_get p e, r⟩
  | int _ => exact h
  | bool _ => exact h
  | nul => exact h
  | ext _ => exact h
theorem VRs.mono {vs : List V} {xs : List Value} (p : ad <+: ad') (h : VRs hb ad vs xs) : VRs hb ad' vs xs := by
  induction h with
  | nil => exact .nil
  | cons a _ ih => exact .cons (a.mono p) ih
theorem DR.mono {ns : List Str} {vs : List V} {es : List DictEntry} (p : ad <+: ad') (h : DR hb ad ns vs es) : DR hb ad' ns vs es := by
  induction h with
  | nil => exact .nil
  | cons a _ ih => exact .cons (a.mono p) ih
theorem OR.mono {c : O} {o : Obj} (p : ad <+: ad') (h : OR C names hb ad c o) : OR C names hb ad' c o := by
  cases c with
  | list vs => obtain ⟨a, b, e, r⟩ := h; exact ⟨a, b, e, r.mono p⟩
  | tup vs => obtain ⟨a, b, e, r⟩ := h; exact ⟨a, b, e, r.mono p⟩
  | inst d => obtain ⟨a, e, r⟩ := h; exact ⟨a, pre_get p e, r⟩
  | dict vs => obtain ⟨a, b, e, r⟩ := h; exact ⟨a, b, e, r.mono p⟩
  | range a b c => exact h
theorem OR.notFreed {c : O} {o : Obj} (h : OR C names hb ad c o) : o.isFreed = false := by
  cases c with
  | list vs => obtain ⟨a, b, e, r⟩ := h; subst e; rfl
  | tup vs => obtain ⟨a, b, e, r⟩ := h; subst e; rfl
  | inst d => obtain ⟨a, e, r⟩ := h; subst r; rfl
  | dict vs => obtain ⟨a, b, e, r⟩ := h; subst e; rfl
  | range a b c => obtain ⟨a, b, c, e, r⟩ := h; subst e; rfl
theorem VRs.length {vs : List V} {xs : List Value} (h : VRs hb ad vs xs) : xs.length = vs.length := by
  induction h with
  | nil => rfl
  | cons _ _ ih => simp [ih]
theorem VRs.get {vs : List V} {xs : List Value} (h : VRs hb ad vs xs) : ∀ {i : Nat} {v : V}, vs[i]? = some v → ∃ x, xs[i]? = some x ∧ VR hb ad v x := by
  induction h with
  | nil => intro i v e; simp at e
  | cons a _ ih =>
    intro i v e
    cases i with
    | zero => simp at e; subst e; exact ⟨_, rfl, a⟩
    | succ i => simp at e; simpa using ih e
theorem VRs.get_none {vs : List V} {xs : List Value} (h : VRs hb ad vs xs) {i : Nat} (e : vs[i]? = none) : xs[i]? = none := by
  rw [List.getElem?_eq_none_iff] at e ⊢
  rw [h.length]; exact e
theorem VRs.set {vs : List V} {xs : List Value} {v : V} {x : Value} (h : VRs hb ad vs xs) (r : VR hb ad v x) : ∀ i : Nat, VRs hb ad (vs.set i v) (xs.set i x) := by
  induction h with
  | nil => intro i; exact .nil
  | cons a b ih =>
    intro i
    cases i with
    | zero => exact .cons r b
    | succ i => exact .cons a (ih i)
theorem VRs.append {vs us : List V} {xs ys : List Value} (h : VRs hb ad vs xs) (k : VRs hb ad us ys) : VRs hb ad (vs ++ us) (xs ++ ys) := by
  induction h with
  | nil => exact k
  | cons a _ ih => exact .cons a ih
theorem VRs.snoc {vs : List V} {xs : List Value} {v : V} {x : Value} (h : VRs hb ad vs xs) (r : VR hb ad v x) : VRs hb ad (vs ++ [v]) (xs ++ [x]) := h.append (.cons r .nil)
theorem VRs.replicate {v : V} {x : Value} (r : VR hb ad v x) : ∀ n : Nat, VRs hb ad (List.replicate n v) (List.replicate n x)
  | 0 => .nil
  | n + 1 => .cons r (VRs.replicate r n)
theorem VRs.ofInts : ∀ {vals : List Value} {ns : List Int}, IntsAre vals ns → VRs hb ad (ns.map .int) vals
  | _, _, .nil => .nil
  | _, _, .cons n t h => .cons ⟨t, rfl⟩ (VRs.ofInts h)
theorem VRs.ints {vs : List V} {xs : List Value} (h : VRs hb ad vs xs) : ∀ {ns : List Int}, ints? vs = some ns → IntsAre xs ns := by
  induction h with
  | nil => intro ns e; simp [ints?] at e; subst e; exact .nil
  | @cons v x vs xs a _ ih =>
    intro ns e
    cases v with
    | int i =>
      simp only [ints?, Option.map_eq_some_iff] at e
      obtain ⟨ms, hm, rfl⟩ := e
      obtain ⟨t, rfl⟩ := a
      exact .cons i t (ih hm)
    | bool _ => simp [ints?] at e
    | nul => simp [ints?] at e
    | ref _ => simp [ints?] at e
    | ext _ => simp [ints?] at e
theorem DR.length {ns : List Str} {vs : List V} {es : List DictEntry} (h : DR hb ad ns vs es) : es.length = vs.length := by
  induction h with
  | nil => rfl
  | cons _ _ ih => simp [ih]
end mono

end Mine
end
section
open PySem PySem.W PySem.Calls PyProof.Rows PySem.Spec
namespace Mine

theorem nodup_inj {α : Type} {l : List α} (h : l.Nodup) {i j : Nat} {a : α} (hi : l[i]? = some a) (hj : l[j]? = some a) : i = j := by
  obtain ⟨l1, e1⟩ := List.getElem?_eq_some_iff.mp hi
  obtain ⟨l2, e2⟩ := List.getElem?_eq_some_iff.mp hj
  have hp := List.pairwise_iff_getElem.mp h
  rcases Nat.lt_trichotomy i j with q | q | q
  · exact absurd (e1.trans e2.symm) (hp i j l1 l2 q)
  · exact q
  · exact absurd (e2.trans e1.symm) (hp j i l2 l1 q)

structure Inv (C : Addr) (names : List Str) (hb : Heap) (L : Addr) (held : List (Addr × Obj)) (m : Str → Option Value) (ad : List Addr) (mem : Mem) (h : Heap) : Prop where
  ns : h.Ns L m
  base : ∀ b o, hb.get? b = some o → h.get? b = some o
  up : hb.objs.size ≤ L
  held : ∀ p ∈ held, h.get? p.1 = some p.2 ∧ p.1 ≠ L ∧ hb.get? p.1 = none ∧ p.1 ∉ ad
  cell : ∀ (i : Nat) (c : O), mem[i]? = some c → ∃ a o, ad[i]? = some a ∧ h.get? a = some o ∧ OR C names hb ad c o
  adok : ∀ a ∈ ad, a ≠ L ∧ hb.get? a = none
  len : ad.length = mem.length
  nodup : ad.Nodup

section
variable {C : Addr} {names : List Str} {hb : Heap} {L : Addr} {held : List (Addr × Obj)} {m : Str → Option Value} {ad : List Addr} {mem : Mem} {h h' : Heap}

theorem Inv.fr (I : Inv C names hb L held m ad mem h) : Fr hb L h m := ⟨I.ns, I.base, I.up⟩

theorem Inv.lt (I : Inv C names hb L held m ad mem h) {a : Addr} (ha : a ∈ ad) : a < h.objs.size := by
  obtain ⟨i, hi, rfl⟩ := List.getElem_of_mem ha
  have hi' : i < mem.length := by rw [← I.len]; exact hi
  obtain ⟨a, o, e, g, _⟩ := I.cell i mem[i] (by simp [hi'])
  rw [List.getElem?_eq_getElem hi] at e
  cases e
  exact Heap.lt_size g

theorem Inv.at (I : Inv C names hb L held m ad mem h) {i : Nat} {c : O} (e : mem[i]? = some c) {a : Addr} (ha : ad[i]? = some a) : ∃ o, h.get? a = some o ∧ OR C names hb ad c o := by
  obtain ⟨a', o, e', g, r⟩ := I.cell i c e
  rw [ha] at e'
  cases e'
  exact ⟨o, g, r⟩

/-- everything but one place x, which is no one's, stays -/
theorem Inv.frame {x : Addr} (I : Inv C names hb L held m ad mem h) (hk : ∀ b o, b ≠ x → h.get? b = some o → h'.get? b = some o)
    (hx : x ∉ ad) (hL : x ≠ L) (hn : hb.get? x = none) (hh : ∀ p ∈ held, p.1 ≠ x) : Inv C names hb L held m ad mem h' where
  ns := I.ns.at' fun o e => hk _ o (Ne.symm hL) e
  base := fun b o e => hk b o (fun q => by rw [q, hn] at e; cases e) (I.base b o e)
  up := I.up
  held := fun p hp => ⟨hk _ _ (hh p hp) (I.held p hp).1, (I.held p hp).2⟩
  cell := fun i c e => by
    obtain ⟨a, o, e1, g, r⟩ := I.cell i c e
    exact ⟨a, o, e1, hk a o (fun q => hx (q ▸ List.mem_of_getElem? e1)) g, r⟩
  adok := I.adok
  len := I.len
  nodup := I.nodup

theorem Inv.keeps (I : Inv C names hb L held m ad mem h) (hk : ∀ b o, h.get? b = some o → h'.get? b = some o) : Inv C names hb L held m ad mem h' where
  ns := I.ns.at' fun o e => hk _ o e
  base := fun b o e => hk b o (I.base b o e)
  up := I.up
  held := fun p hp => ⟨hk _ _ (I.held p hp).1, (I.held p hp).2⟩
  cell := fun i c e => by
    obtain ⟨a, o, e1, g, r⟩ := I.cell i c e
    exact ⟨a, o, e1, hk a o g, r⟩
  adok := I.adok
  len := I.len
  nodup := I.nodup

theorem Inv.push (I : Inv C names hb L held m ad mem h) (o : Obj) : Inv C names hb L held m ad mem (h.push o) := I.keeps fun _ _ e => Heap.get?_push_of_some _ e

theorem fresh_none {h : Heap} {a : Addr} (ha : h.objs.size ≤ a) : h.get? a = none := by
  cases e : h.get? a with
  | none => rfl
  | some o => exact absurd (Heap.lt_size e) (Nat.not_lt.mpr ha)

theorem Inv.size (I : Inv C names hb L held m ad mem h) : hb.objs.size ≤ h.objs.size := Nat.le_trans I.up (Nat.le_of_lt I.ns.lt)

/-- a new cell at a place that the heap h did not know -/
theorem Inv.new {x : Addr} {c : O} {o : Obj} (I : Inv C names hb L held m ad mem h) (hk : ∀ b o, h.get? b = some o → h'.get? b = some o) (hx : h.objs.size ≤ x)
    (hg : h'.get? x = some o) (r : OR C names hb (ad ++ [x]) c o) : Inv C names hb L held m (ad ++ [x]) (mem ++ [c]) h' where
  ns := I.ns.at' fun o e => hk _ o e
  base := fun b o e => hk b o (I.base b o e)
  up := I.up
  held := fun p hp => by
    obtain ⟨a, b, c, d⟩ := I.held p hp
    refine ⟨hk _ _ a, b, c, ?_⟩
    rw [List.mem_append, not_or]
    refine ⟨d, fun q => ?_⟩
    have e := List.mem_singleton.mp q
    exact absurd (Heap.lt_size a) (by rw [e]; exact Nat.not_lt.mpr hx)
  cell := fun i d e => by
    rcases Nat.lt_or_ge i mem.length with hi | hi
    · rw [List.getElem?_append_left hi] at e
      obtain ⟨a, o', e1, g, r'⟩ := I.cell i d e
      exact ⟨a, o', pre_get (List.prefix_append _ _) e1, hk _ _ g, r'.mono (List.prefix_append _ _)⟩
    · rw [List.getElem?_append_right hi] at e
      have hz : i - mem.length = 0 := by
        have := (List.getElem?_eq_some_iff.mp e).1
        simp at this; omega
      rw [hz] at e
      simp at e
      subst e
      refine ⟨x, o, ?_, hg, r⟩
      have hi' : i = ad.length := by have := I.len; omega
      rw [hi']
      simp
  adok := fun a ha => by
    rcases List.mem_append.mp ha with ha | ha
    · exact I.adok a ha
    · rw [List.mem_singleton.mp ha]
      exact ⟨Nat.ne_of_gt (Nat.lt_of_lt_of_le I.ns.lt hx), fresh_none (Nat.le_trans I.size hx)⟩
  len := by simp [I.len]
  nodup := by
    rw [List.nodup_append]
    refine ⟨I.nodup, by simp, fun a ha b hb q => ?_⟩
    have e := List.mem_singleton.mp hb
    subst q; subst e
    exact absurd (I.lt ha) (Nat.not_lt.mpr hx)

theorem Inv.alloc {c : O} {o : Obj} (I : Inv C names hb L held m ad mem h) (r : OR C names hb (ad ++ [h.objs.size]) c o) :
    Inv C names hb L held m (ad ++ [h.objs.size]) (mem ++ [c]) (h.push o) :=
  I.new (fun _ _ e => Heap.get?_push_of_some _ e) (Nat.le_refl _) (Heap.get?_push_size _ r.notFreed) r

/-- a cell changed -/
theorem Inv.set {i : Nat} {x : Addr} {c : O} {o : Obj} (I : Inv C names hb L held m ad mem h) (hi : ad[i]? = some x) (hs : ∀ b o, b ≠ x → h.get? b = some o → h'.get? b = some o)
    (hg : h'.get? x = some o) (r : OR C names hb ad c o) : Inv C names hb L held m ad (mem.set i c) h' where
  ns := I.ns.at' fun o e => hs _ o (Ne.symm (I.adok x (List.mem_of_getElem? hi)).1) e
  base := fun b o e => hs b o (fun q => by rw [q, (I.adok x (List.mem_of_getElem? hi)).2] at e; cases e) (I.base b o e)
  up := I.up
  held := fun p hp => ⟨hs _ _ (fun q => (I.held p hp).2.2.2 (q ▸ List.mem_of_getElem? hi)) (I.held p hp).1, (I.held p hp).2⟩
  cell := fun j d e => by
    by_cases hj : j = i
    · subst hj
      have hl : j < mem.length := by rw [← I.len]; exact (List.getElem?_eq_some_iff.mp hi).1
      rw [List.getElem?_set_self hl] at e
      cases e
      exact ⟨x, o, hi, hg, r⟩
    · rw [List.getElem?_set_ne (Ne.symm hj)] at e
      obtain ⟨a, o', e1, g, r'⟩ := I.cell j d e
      refine ⟨a, o', e1, hs a o' (fun q => hj ?_) g, r'⟩
      subst q
      exact nodup_inj I.nodup e1 hi
  adok := I.adok
  len := by simp [I.len]
  nodup := I.nodup

theorem Inv.store {m' : Str → Option Value} (I : Inv C names hb L held m ad mem h) (hn : h'.Ns L m') (hs : Heap.SameBut L h h') : Inv C names hb L held m' ad mem h' where
  ns := hn
  base := fun b o e => (hs.2 b (Nat.ne_of_lt (Nat.lt_of_lt_of_le (Heap.lt_size e) I.up))).trans (I.base b o e)
  up := I.up
  held := fun p hp => ⟨(hs.2 _ (I.held p hp).2.1).trans (I.held p hp).1, (I.held p hp).2⟩
  cell := fun i c e => by
    obtain ⟨a, o, e1, g, r⟩ := I.cell i c e
    exact ⟨a, o, e1, (hs.2 a (I.adok a (List.mem_of_getElem? e1)).1).trans g, r⟩
  adok := I.adok
  len := I.len
  nodup := I.nodup

/-- a held object joins -/
theorem Inv.hold {x : Addr} {o : Obj} (I : Inv C names hb L held m ad mem h) (hg : h.get? x = some o) (hL : x ≠ L) (hn : hb.get? x = none) (hx : x ∉ ad) : Inv C names hb L ((x, o) :: held) m ad mem h where
  ns := I.ns
  base := I.base
  up := I.up
  held := fun p hp => by
    rcases List.mem_cons.mp hp with rfl | hp
    · exact ⟨hg, hL, hn, hx⟩
    · exact I.held p hp
  cell := I.cell
  adok := I.adok
  len := I.len
  nodup := I.nodup
theorem Inv.drop {p : Addr × Obj} (I : Inv C names hb L (p :: held) m ad mem h) : Inv C names hb L held m ad mem h where
  ns := I.ns
  base := I.base
  up := I.up
  held := fun q hq => I.held q (.tail _ hq)
  cell := I.cell
  adok := I.adok
  len := I.len
  nodup := I.nodup

/-- all that is ours as the library's list; and back -/
theorem Inv.news (I : Inv C names hb L held m ad mem h) : ∃ led, News hb L h led ∧ (∀ p ∈ led, p.1 < h.objs.size) ∧ ∀ h' m', h'.Ns L m' → (∀ b o, hb.get? b = some o → h'.get? b = some o) → (∀ p ∈ led, h'.get? p.1 = some p.2) →
    Inv C names hb L held m' ad mem h' := by
  have hex : ∀ l : List Addr, (∀ a ∈ l, a ∈ ad) → ∃ led : List (Addr × Obj), (∀ p ∈ led, p.1 ∈ l ∧ h.get? p.1 = some p.2) ∧ ∀ a ∈ l, ∃ o, (a, o) ∈ led := by
    intro l
    induction l with
    | nil => intro _; exact ⟨[], by simp, by simp⟩
    | cons a r ih =>
      intro hl
      obtain ⟨led, h1, h2⟩ := ih fun b hb => hl b (.tail _ hb)
      obtain ⟨i, hi, ha⟩ := List.getElem_of_mem (hl a (.head _))
      have hi' : i < mem.length := by rw [← I.len]; exact hi
      obtain ⟨a', o, e1, g, _⟩ := I.cell i mem[i] (List.getElem?_eq_getElem hi')
      rw [List.getElem?_eq_getElem hi, ha] at e1
      cases e1
      refine ⟨(a, o) :: led, fun p hp => ?_, fun b hb => ?_⟩
      · rcases List.mem_cons.mp hp with rfl | hp
        · exact ⟨.head _, g⟩
        · exact ⟨.tail _ (h1 p hp).1, (h1 p hp).2⟩
      · rcases List.mem_cons.mp hb with rfl | hb
        · exact ⟨o, .head _⟩
        · obtain ⟨o', ho'⟩ := h2 b hb
          exact ⟨o', .tail _ ho'⟩
  obtain ⟨led, h1, h2⟩ := hex ad fun _ x => x
  refine ⟨held ++ led, fun p hp => ?_, fun p hp => ?_, fun h' m' hn hk hl => ?_⟩
  · rcases List.mem_append.mp hp with hp | hp
    · exact ⟨(I.held p hp).1, (I.held p hp).2.1, (I.held p hp).2.2.1⟩
    · exact ⟨(h1 p hp).2, I.adok _ (h1 p hp).1⟩
  · rcases List.mem_append.mp hp with hp | hp
    · exact Heap.lt_size (I.held p hp).1
    · exact Heap.lt_size (h1 p hp).2
  · refine Inv.mk hn hk I.up (fun p hp => ⟨hl p (List.mem_append_left _ hp), (I.held p hp).2⟩) (fun i c e => ?_) I.adok I.len I.nodup
    obtain ⟨a, o, e1, g, r⟩ := I.cell i c e
    obtain ⟨o', ho'⟩ := h2 a (List.mem_of_getElem? e1)
    have := (h1 _ ho').2
    rw [g] at this
    cases this
    exact ⟨a, _, e1, hl _ (List.mem_append_right _ ho'), r⟩

/-- a call's new frame: the caller's names are held -/
theorem Inv.enter {m' : Str → Option Value} {o : Obj} (I : Inv C names hb L held m ad mem h) (hn : h'.Ns h.objs.size m') (hk : ∀ b o, h.get? b = some o → h'.get? b = some o) (ho : h.get? L = some o) :
    Inv C names hb h.objs.size ((L, o) :: held) m' ad mem h' where
  ns := hn
  base := fun b o e => hk b o (I.base b o e)
  up := I.size
  held := fun p hp => by
    rcases List.mem_cons.mp hp with rfl | hp
    · exact ⟨hk _ _ ho, Nat.ne_of_lt (Heap.lt_size ho), fresh_none I.up, fun q => (I.adok L q).1 rfl⟩
    · obtain ⟨a, b, c, d⟩ := I.held p hp
      exact ⟨hk _ _ a, Nat.ne_of_lt (Heap.lt_size a), c, d⟩
  cell := fun i c e => by
    obtain ⟨a, o, e1, g, r⟩ := I.cell i c e
    exact ⟨a, o, e1, hk a o g, r⟩
  adok := fun a ha => ⟨Nat.ne_of_lt (I.lt ha), (I.adok a ha).2⟩
  len := I.len
  nodup := I.nodup

theorem Inv.leave {L' : Addr} {m' : Str → Option Value} {o : Obj} {ad' : List Addr} {mem' : Mem} {h₀ : Heap} (I₀ : Inv C names hb L held m ad mem h₀) (ho : h₀.get? L = some o)
    (I : Inv C names hb L' ((L, o) :: held) m' ad' mem' h') : Inv C names hb L held m ad' mem' h' where
  ns := I₀.ns.at' fun o' e => by
    rw [ho] at e; cases e
    exact (I.held _ (.head _)).1
  base := I.base
  up := I₀.up
  held := fun p hp => ⟨(I.held p (.tail _ hp)).1, (I₀.held p hp).2.1, (I.held p (.tail _ hp)).2.2⟩
  cell := I.cell
  adok := fun a ha => ⟨fun q => (I.held _ (.head _)).2.2.2 (q ▸ ha), (I.adok a ha).2⟩
  len := I.len
  nodup := I.nodup
end

/-! locals -/

noncomputable def LocR (hb : Heap) (loc : List Str) (ad : List Addr) (l : Loc) (m : Str → Option Value) : Prop :=
  l.length = loc.length ∧ ∀ (x : Nat) (v : V), l[x]? = some (some v) → ∃ id val, loc[x]? = some id ∧ m id = some val ∧ VR hb ad v val

section
variable {hb : Heap} {loc : List Str} {ad ad' : List Addr} {l : Loc} {m : Str → Option Value}
theorem LocR.mono (p : ad <+: ad') (h : LocR hb loc ad l m) : LocR hb loc ad' l m :=
  ⟨h.1, fun x v e => let ⟨id, val, a, b, c⟩ := h.2 x v e; ⟨id, val, a, b, c.mono p⟩⟩
theorem LocR.set {x : Nat} {v : V} {val : Value} {id : Str} {l' : Loc} (hd : loc.Nodup) (h : LocR hb loc ad l m) (hx : loc[x]? = some id) (r : VR hb ad v val) (e : setSlot l x v = some l') :
    LocR hb loc ad l' (fun y => if y = id then some val else m y) := by
  unfold setSlot at e
  split at e
  · rename_i hlt
    cases e
    refine ⟨by simp [h.1], fun y u hu => ?_⟩
    by_cases hy : y = x
    · subst hy
      rw [List.getElem?_set_self hlt] at hu
      cases hu
      exact ⟨id, val, hx, by simp, r⟩
    · rw [List.getElem?_set_ne (Ne.symm hy)] at hu
      obtain ⟨id', val', a, b, c⟩ := h.2 y u hu
      refine ⟨id', val', a, ?_, c⟩
      have hne : id' ≠ id := by
        intro q
        subst q
        exact hy (nodup_inj hd a hx)
      simp only [if_neg hne]
      exact b
  · cases e
end

/-! the frame's names; the text's facts -/

structure EnvOk (c : Sc) (env : Env) (L : Addr) : Prop where
  loc : env.locals = L
  glb : env.globals = mainGlobals
  blt : env.builtins = builtinsNs
  kind : env.scope.kind = .function
  kl : ∀ x ∈ c.loc, env.kindOf x = some .local ∧ (x == ("__debug__" : Str)) = false
  kg : ∀ x, c.glob.contains x = true → env.kindOf x = some .globalImplicit ∧ (x == ("__debug__" : Str)) = false
  nodup : c.loc.Nodup

structure FnOk (P : Names) (c : Sc) (f : Fn) (fd : FuncData) (body : List Stmt) : Prop where
  glb : fd.globals = mainGlobals
  blt : fd.builtins = builtinsNs
  cell : ∀ x ∈ fd.scope.names, x.2 ≠ .cell
  co : fd.scope.isCoroutine = false
  gen : fd.scope.isGenerator = false
  kind : fd.scope.kind = .function
  stmts : fd.body = .stmts body
  bind : ∀ (s : Shared) (vals : List Value), vals.length = f.params → BindsTo s fd ⟨vals, []⟩ ((c.loc.take f.params).zip vals)
  kl : ∀ x ∈ c.loc, fd.scope.names.lookup x = some .local ∧ (x == ("__debug__" : Str)) = false
  kg : ∀ x, c.glob.contains x = true → fd.scope.names.lookup x = some .globalImplicit ∧ (x == ("__debug__" : Str)) = false
  nodup : c.loc.Nodup
  slots : c.loc.length = f.slots
  pars : f.params ≤ f.slots
  text : cSs P c f.body body = true

noncomputable def FnAt (P : Names) (fs : List Fn) (hb : Heap) (a : Addr) (k : Nat) : Prop :=
  ∃ o fd body c f, hb.get? a = some o ∧ o.data = .func fd ∧ hb.CodeRec fd.code fd.qualname ∧ fs[k]? = some f ∧ FnOk P c f fd body

structure Wd (prog : Program) (w : World) (K : Frag) (C : Addr) (P : Names) (G : Glb) (fs : List Fn) (mg mb : Str → Option Value) (hb : Heap) : Prop where
  g : hb.Ns mainGlobals mg
  b : hb.Ns builtinsNs mb
  nolim : hb.NoLimit
  range : mg "range" = none ∧ mb "range" = some (.type "range")
  len : mg "len" = none ∧ mb "len" = some (.builtin "len")
  gi : ∀ (k : Nat) (x : Str) (i : Int), P.gis[k]? = some x → G.gis[k]? = some i → ∃ t, mg x = some (.int i t)
  gt : ∀ (k : Nat) (x : Str) (ns : List Int), P.gts[k]? = some x → G.gts[k]? = some ns → ∃ a vals, mg x = some (.ref a) ∧ IsTup hb a vals.toArray ∧ IntsAre vals ns
  fn : ∀ (k : Nat) (x : Str), P.fns[k]? = some x → ∃ a, mg x = some (.ref a) ∧ FnAt P fs hb a k
  cls : mg P.cls = some (.ref C)
  kin : K.In hb
  mkb : makesIn K C = true
  keep : keepIn K (.ref C) = true
  ini : ∃ fI, findIn K (.ref C) "__init__" = some (some (.ref fI)) ∧ typeIn K (.ref fI) = some (.type "function") ∧ FnAt P fs hb fI G.gnew
  attr : ∀ (f : Nat) (x : Str), P.attrs[f]? = some x → plainGet K C x = true ∧ (∃ at', findIn K (.ref C) x = some at' ∧ noGet K at' = true) ∧ takerIn K C x = some none
  hasd : hasDictIn K C = true
  sa : findIn K (.ref C) "__setattr__" = some (some (.builtin "object.__setattr__"))
  po : plainOver K C = true
  nodup : P.attrs.Nodup
  few : P.attrs.length ≤ 100

noncomputable def AOk (n : Nat) (A : Around) : Prop := A.handled = none ∧ A.depth + 2 * n + 2 < recursionLimit ∧ A.units + 20 * n + 100 < cLine

end Mine
end
section
open PySem PySem.W PySem.Calls PyProof.Rows PySem.Spec
namespace Mine

theorem VR.int {hb : Heap} {ad : List Addr} (i : Int) (t : Tok) : VR hb ad (.int i) (.int i t) := ⟨t, rfl⟩
noncomputable abbrev NoE : Value → Shared → Prop := fun _ _ => False

theorem p2_eq (n : Int) : (2 : Int) ^ n.toNat = p2 n := by unfold p2; rw [Int.natCast_pow]; rfl
theorem band_eq (a b : Int) : Builtin.bitAnd a b = band a b := by
  unfold band
  split
  · rename_i x y
    show Builtin.bitAnd (x : Int) (y : Int) = ((x &&& y : Nat) : Int)
    rw [bitAnd_pp (Int.natCast_nonneg x) (Int.natCast_nonneg y)]
    rfl
  · rfl
theorem nat_xor_add_and (m : Nat) : ∀ n : Nat, (m ^^^ n) + 2 * (m &&& n) = m + n := by
  induction m using Nat.strongRecOn with
  | ind m ih =>
    intro n
    by_cases h0 : m = 0
    · subst h0; simp
    · have ih' := ih (m / 2) (by omega) (n / 2)
      rw [← Nat.xor_div_two, ← Nat.and_div_two] at ih'
      have o1 := @Nat.xor_mod_two_eq_one m n
      have a1 := @Nat.and_mod_two_eq_one m n
      omega
theorem bor_eq (a b : Int) : Builtin.bitOr a b = bor a b := by
  unfold bor
  split
  · rename_i x y
    show Builtin.bitOr (x : Int) (y : Int) = ((x ||| y : Nat) : Int)
    rw [bitOr_and, bitAnd_pp (Int.natCast_nonneg x) (Int.natCast_nonneg y)]
    have := nat_or_add_and x y
    simp only [Int.toNat_natCast]
    omega
  · rfl
theorem bxor_eq (a b : Int) : Builtin.bitXor a b = bxor a b := by
  unfold bxor
  split
  · rename_i x y
    show Builtin.bitXor (x : Int) (y : Int) = ((x ^^^ y : Nat) : Int)
    unfold Builtin.bitXor
    rw [bitOr_and, bitAnd_pp (Int.natCast_nonneg x) (Int.natCast_nonneg y)]
    have := nat_xor_add_and x y
    simp only [Int.toNat_natCast]
    omega
  · rfl
theorem two_small : (2 : Int).natAbs < 2 ^ 64 := Nat.le_of_ble_eq_true rfl
theorem small_iff {a : Int} (h : small a = true) : a.natAbs < 2 ^ 64 := Nat.le_of_ble_eq_true h
theorem shOk_iff {a : Int} (h : shOk a = true) : 0 ≤ a ∧ a ≤ 1000000 := by
  simpa [shOk] using h

section
variable {prog : Program} {w : World} {A : Around} {s : Shared} {hb : Heap} {ad : List Addr}

theorem ibin_ok {o : Op} {op : Operator} {a b r : Int} {t u : Tok} {Q : Value → Shared → Prop} (hop : opOf op = some o) (h : ibin o a b = some r)
    (k : ∀ t tk, Q (.int r t) { s with toks := tk }) : wpAny (model prog w) A (binaryOp op (.int a t) (.int b u)) Q NoE s := by
  cases op <;> simp only [opOf, Option.some.injEq, reduceCtorEq] at hop <;> subst hop <;> simp only [ibin] at h
  case Add => cases h; with_reducible exact PyProof.Rows.add_int (k _ _)
  case Sub => cases h; with_reducible exact PyProof.Rows.sub_int (k _ _)
  case Mult =>
    split at h
    · rename_i hs; cases h
      with_reducible exact PyProof.Rows.mul_int (k _ _) (IntMulOk.of_left (intBits_le (k := 64) (small_iff hs)))
    · cases h
  case FloorDiv =>
    split at h
    · rename_i hs
      simp only [Bool.and_eq_true, bne_iff_ne, ne_eq] at hs
      cases h
      with_reducible exact PyProof.Rows.floordiv_int hs.1 (k _ _) (.inl (PyProof.noPylong_of_log2 (x := a) (y := b) (by
        have h1 := small_iff hs.2
        have h2 := Nat.log2_lt (n := b.natAbs) (k := 64) (by omega)
        omega)))
    · cases h
  case Mod =>
    split at h
    · rename_i hs
      simp only [bne_iff_ne, ne_eq] at hs
      cases h
      with_reducible exact PyProof.Rows.mod_int' hs (k _ _)
    · cases h
  case Pow =>
    split at h
    · rename_i hs
      simp only [Bool.and_eq_true, beq_iff_eq] at hs
      obtain ⟨h1, h2⟩ := hs
      subst h1
      cases h
      obtain ⟨h3, h4⟩ := shOk_iff h2
      with_reducible exact PyProof.Rows.pow_int_small h3 h4 two_small (by rw [p2_eq]; exact k _ _)
    · cases h
  case LShift =>
    split at h
    · rename_i hs
      simp only [Bool.and_eq_true] at hs
      obtain ⟨h3, h4⟩ := shOk_iff hs.1
      cases h
      with_reducible exact PyProof.Rows.lshift_int_small h3 h4 (small_iff hs.2) (by rw [p2_eq]; exact k _ _)
    · cases h
  case RShift =>
    split at h
    · rename_i hs
      obtain ⟨h3, h4⟩ := shOk_iff hs
      cases h
      with_reducible exact PyProof.Rows.rshift_int h3 (by rw [p2_eq]; exact k _ _)
    · cases h
  case BitAnd => cases h; with_reducible exact PyProof.Rows.and_int (by rw [band_eq]; exact k _ _)
  case BitOr => cases h; with_reducible exact PyProof.Rows.or_int (by rw [bor_eq]; exact k _ _)
  case BitXor => cases h; with_reducible exact PyProof.Rows.xor_int (by rw [bxor_eq]; exact k _ _)

theorem iaug_ok {o : Op} {op : Operator} {a b r : Int} {t u : Tok} {Q : Value → Shared → Prop} (hop : opOf op = some o) (h : ibin o a b = some r)
    (k : ∀ t tk, Q (.int r t) { s with toks := tk }) : wpAny (model prog w) A (inplaceOp op (.int a t) (.int b u)) Q NoE s := by
  cases op <;> simp only [opOf, Option.some.injEq, reduceCtorEq] at hop <;> subst hop <;> simp only [ibin] at h
  case Add => cases h; with_reducible exact PyProof.Rows.iadd_int (k _ _)
  case Sub => cases h; with_reducible exact PyProof.Rows.isub_int (k _ _)
  case Mult =>
    split at h
    · rename_i hs; cases h
      with_reducible exact PyProof.Rows.imul_int (k _ _) (IntMulOk.of_left (intBits_le (k := 64) (small_iff hs)))
    · cases h
  case FloorDiv =>
    split at h
    · rename_i hs
      simp only [Bool.and_eq_true, bne_iff_ne, ne_eq] at hs
      cases h
      with_reducible exact PyProof.Rows.ifloordiv_int hs.1 (k _ _) (.inl (PyProof.noPylong_of_log2 (x := a) (y := b) (by
        have h1 := small_iff hs.2
        have h2 := Nat.log2_lt (n := b.natAbs) (k := 64) (by omega)
        omega)))
    · cases h
  case Mod =>
    split at h
    · rename_i hs
      simp only [bne_iff_ne, ne_eq] at hs
      cases h
      with_reducible exact PyProof.Rows.imod_int hs (k _ _)
    · cases h
  case Pow =>
    split at h
    · rename_i hs
      simp only [Bool.and_eq_true, beq_iff_eq] at hs
      obtain ⟨h1, h2⟩ := hs
      subst h1
      cases h
      obtain ⟨h3, h4⟩ := shOk_iff h2
      with_reducible exact PyProof.Rows.ipow_int_small h3 h4 two_small (by rw [p2_eq]; exact k _ _)
    · cases h
  case LShift =>
    split at h
    · rename_i hs
      simp only [Bool.and_eq_true] at hs
      obtain ⟨h3, h4⟩ := shOk_iff hs.1
      cases h
      with_reducible exact PyProof.Rows.ilshift_int_small h3 h4 (small_iff hs.2) (by rw [p2_eq]; exact k _ _)
    · cases h
  case RShift =>
    split at h
    · rename_i hs
      obtain ⟨h3, h4⟩ := shOk_iff hs
      cases h
      with_reducible exact PyProof.Rows.irshift_int h3 (by rw [p2_eq]; exact k _ _)
    · cases h
  case BitAnd => cases h; with_reducible exact PyProof.Rows.iand_int (by rw [band_eq]; exact k _ _)
  case BitOr => cases h; with_reducible exact PyProof.Rows.ior_int (by rw [bor_eq]; exact k _ _)
  case BitXor => cases h; with_reducible exact PyProof.Rows.ixor_int (by rw [bxor_eq]; exact k _ _)

theorem vbin_inv {o : Op} {u v r : V} (h : vbin o u v = some r) : ∃ a b c, u = .int a ∧ v = .int b ∧ r = .int c ∧ ibin o a b = some c := by
  cases u <;> cases v <;> simp only [vbin, reduceCtorEq, Option.map_eq_some_iff] at h
  obtain ⟨c, hc, rfl⟩ := h
  exact ⟨_, _, c, rfl, rfl, rfl, hc⟩

theorem vbin_ok {o : Op} {op : Operator} {u v r : V} {x y : Value} {Q : Value → Shared → Prop} (hop : opOf op = some o) (h : vbin o u v = some r) (R1 : VR hb ad u x) (R2 : VR hb ad v y)
    (k : ∀ val tk, VR hb ad r val → Q val { s with toks := tk }) : wpAny (model prog w) A (binaryOp op x y) Q NoE s := by
  obtain ⟨a, b, c, rfl, rfl, rfl, hc⟩ := vbin_inv h
  obtain ⟨t1, rfl⟩ := R1
  obtain ⟨t2, rfl⟩ := R2
  with_reducible exact ibin_ok hop hc fun t tk => k _ _ (VR.int _ t)
theorem vaug_ok {o : Op} {op : Operator} {u v r : V} {x y : Value} {Q : Value → Shared → Prop} (hop : opOf op = some o) (h : vbin o u v = some r) (R1 : VR hb ad u x) (R2 : VR hb ad v y)
    (k : ∀ val tk, VR hb ad r val → Q val { s with toks := tk }) : wpAny (model prog w) A (inplaceOp op x y) Q NoE s := by
  obtain ⟨a, b, c, rfl, rfl, rfl, hc⟩ := vbin_inv h
  obtain ⟨t1, rfl⟩ := R1
  obtain ⟨t2, rfl⟩ := R2
  with_reducible exact iaug_ok hop hc fun t tk => k _ _ (VR.int _ t)

theorem vcmp_ok {c : Cm} {op : CmpOp} {u v : V} {r : Bool} {x y : Value} {Q : Value → Shared → Prop} (hop : cmOf op = some c) (h : vcmp c u v = some r) (R1 : VR hb ad u x) (R2 : VR hb ad v y)
    (k : Q (.bool r) s) : wpAny (model prog w) A (compareOp op x y) Q NoE s := by
  cases u <;> cases v <;> simp only [vcmp, reduceCtorEq, Option.some.injEq] at h
  subst h
  obtain ⟨t1, rfl⟩ := R1
  obtain ⟨t2, rfl⟩ := R2
  cases op <;> simp only [cmOf, Option.some.injEq, reduceCtorEq] at hop <;> subst hop <;> simp only [icmp] at k
  case Eq => with_reducible exact PySem.P.eq_int k
  case NotEq => with_reducible exact PySem.P.ne_int k
  case Lt => with_reducible exact PySem.P.lt_int k
  case LtE => with_reducible exact PySem.P.le_int k
  case Gt => with_reducible exact PySem.P.gt_int k
  case GtE => with_reducible exact PySem.P.ge_int k

theorem truth_ok {u : V} {r : Bool} {x : Value} {Q : Bool → Shared → Prop} (h : truth u = some r) (R1 : VR hb ad u x) (k : Q r s) : wpAny (model prog w) A (truthy x) Q NoE s := by
  cases u <;> simp only [truth, reduceCtorEq, Option.some.injEq] at h
  · subst h
    obtain ⟨t1, rfl⟩ := R1
    with_reducible exact PySem.P.truthy_int k
  · subst h
    cases R1
    with_reducible exact wpAny_truthy_bool k

theorem place_ok {k : Int} {n : Nat} (h : place k = some n) : 0 ≤ k ∧ k < 2 ^ 40 ∧ k.toNat = n := by
  unfold place at h
  split at h
  · rename_i hs
    simp only [Bool.and_eq_true, decide_eq_true_eq] at hs
    cases h
    exact ⟨hs.1, hs.2, rfl⟩
  · cases h

theorem seqIndex_place {k : Int} {n : Nat} (h0 : 0 ≤ k) (h : k.toNat < n) : seqIndex? k n = some k.toNat := by
  unfold seqIndex?
  have h1 : ¬ k < 0 := by omega
  simp only [if_neg h1]
  have h2 : (decide (0 ≤ k) && decide (k < (n : Int))) = true := by
    simp only [Bool.and_eq_true, decide_eq_true_eq]
    omega
  rw [if_pos h2]
end
end Mine
end
section
open PySem PySem.W PySem.Calls PyProof.Rows PySem.Spec
namespace Mine

section
variable {C : Addr} {names : List Str} {hb : Heap} {L : Addr} {held : List (Addr × Obj)} {m : Str → Option Value} {ad : List Addr} {mem : Mem} {h h' : Heap}

/-- what of the library's list is wanted back -/
theorem Inv.set' {m' : Str → Option Value} {i : Nat} {x : Addr} {c : O} {o : Obj} (I : Inv C names hb L held m ad mem h) (hi : ad[i]? = some x) (hn : h'.Ns L m') (hbk : ∀ b o, hb.get? b = some o → h'.get? b = some o)
    (hk : ∀ b o, b ≠ x → (b ∈ ad ∨ ∃ p ∈ held, p.1 = b) → h.get? b = some o → h'.get? b = some o)
    (hg : h'.get? x = some o) (r : OR C names hb ad c o) : Inv C names hb L held m' ad (mem.set i c) h' where
  ns := hn
  base := hbk
  up := I.up
  held := fun p hp => ⟨hk _ _ (fun q => (I.held p hp).2.2.2 (q ▸ List.mem_of_getElem? hi)) (.inr ⟨p, hp, rfl⟩) (I.held p hp).1, (I.held p hp).2⟩
  cell := fun j d e => by
    by_cases hj : j = i
    · subst hj
      have hl : j < mem.length := by rw [← I.len]; exact (List.getElem?_eq_some_iff.mp hi).1
      rw [List.getElem?_set_self hl] at e
      cases e
      exact ⟨x, o, hi, hg, r⟩
    · rw [List.getElem?_set_ne (Ne.symm hj)] at e
      obtain ⟨a, o', e1, g, r'⟩ := I.cell j d e
      refine ⟨a, o', e1, hk a o' (fun q => hj ?_) (.inl (List.mem_of_getElem? e1)) g, r'⟩
      subst q
      exact nodup_inj I.nodup e1 hi
  adok := I.adok
  len := by simp [I.len]
  nodup := I.nodup

/-- every object of ours, as a list of the library's -/
theorem Inv.led (I : Inv C names hb L held m ad mem h) : ∃ led, News hb L h led ∧ (∀ p ∈ led, p.1 < h.objs.size) ∧ ∀ b o, (b ∈ ad ∨ ∃ p ∈ held, p.1 = b) → h.get? b = some o → (b, o) ∈ led := by
  have hex : ∀ l : List Addr, (∀ a ∈ l, a ∈ ad) → ∃ led : List (Addr × Obj), (∀ p ∈ led, p.1 ∈ l ∧ h.get? p.1 = some p.2) ∧ ∀ a ∈ l, ∃ o, (a, o) ∈ led := by
    intro l
    induction l with
    | nil => intro _; exact ⟨[], by simp, by simp⟩
    | cons a r ih =>
      intro hl
      obtain ⟨led, h1, h2⟩ := ih fun b hb => hl b (.tail _ hb)
      obtain ⟨i, hi, ha⟩ := List.getElem_of_mem (hl a (.head _))
      have hi' : i < mem.length := by rw [← I.len]; exact hi
      obtain ⟨a', o, e1, g, _⟩ := I.cell i mem[i] (List.getElem?_eq_getElem hi')
      rw [List.getElem?_eq_getElem hi, ha] at e1
      cases e1
      refine ⟨(a, o) :: led, fun p hp => ?_, fun b hb => ?_⟩
      · rcases List.mem_cons.mp hp with rfl | hp
        · exact ⟨.head _, g⟩
        · exact ⟨.tail _ (h1 p hp).1, (h1 p hp).2⟩
      · rcases List.mem_cons.mp hb with rfl | hb
        · exact ⟨o, .head _⟩
        · obtain ⟨o', ho'⟩ := h2 b hb
          exact ⟨o', .tail _ ho'⟩
  obtain ⟨led, h1, h2⟩ := hex ad fun _ x => x
  refine ⟨held ++ led, fun p hp => ?_, fun p hp => ?_, fun b o hbo e => ?_⟩
  · rcases List.mem_append.mp hp with hp | hp
    · exact ⟨(I.held p hp).1, (I.held p hp).2.1, (I.held p hp).2.2.1⟩
    · exact ⟨(h1 p hp).2, I.adok _ (h1 p hp).1⟩
  · rcases List.mem_append.mp hp with hp | hp
    · exact Heap.lt_size (I.held p hp).1
    · exact Heap.lt_size (h1 p hp).2
  · rcases hbo with hb1 | ⟨p, hp, rfl⟩
    · obtain ⟨o', ho'⟩ := h2 b hb1
      have := (h1 _ ho').2
      rw [e] at this
      cases this
      exact List.mem_append_right _ ho'
    · have := (I.held p hp).1
      rw [e] at this
      cases this
      exact List.mem_append_left _ hp

/-- a new object of the library's, seen as our new cell -/
theorem Inv.newOf {m' : Str → Option Value} {x : Addr} {c : O} {o : Obj} {led : List (Addr × Obj)} (I : Inv C names hb L held m ad mem h)
    (hl : ∀ b o, (b ∈ ad ∨ ∃ p ∈ held, p.1 = b) → h.get? b = some o → (b, o) ∈ led) (F : Fr hb L h' m') (N : News hb L h' ((x, o) :: led)) (hx : ∀ b, (b ∈ ad ∨ ∃ p ∈ held, p.1 = b) → b ≠ x)
    (r : OR C names hb (ad ++ [x]) c o) : Inv C names hb L held m' (ad ++ [x]) (mem ++ [c]) h' where
  ns := F.ns
  base := F.keep
  up := I.up
  held := fun p hp => by
    obtain ⟨a, b, c, d⟩ := I.held p hp
    refine ⟨(N _ (.tail _ (hl _ _ (.inr ⟨p, hp, rfl⟩) a))).1, b, c, ?_⟩
    rw [List.mem_append, not_or]
    refine ⟨d, fun q => ?_⟩
    exact hx _ (.inr ⟨p, hp, rfl⟩) (List.mem_singleton.mp q)
  cell := fun i d e => by
    rcases Nat.lt_or_ge i mem.length with hi | hi
    · rw [List.getElem?_append_left hi] at e
      obtain ⟨a, o', e1, g, r'⟩ := I.cell i d e
      exact ⟨a, o', pre_get (List.prefix_append _ _) e1, (N _ (.tail _ (hl _ _ (.inl (List.mem_of_getElem? e1)) g))).1, r'.mono (List.prefix_append _ _)⟩
    · rw [List.getElem?_append_right hi] at e
      have hz : i - mem.length = 0 := by
        have := (List.getElem?_eq_some_iff.mp e).1
        simp at this; omega
      rw [hz] at e
      simp at e
      subst e
      refine ⟨x, o, ?_, (N _ (.head _)).1, r⟩
      have hi' : i = ad.length := by have := I.len; omega
      rw [hi']
      simp
  adok := fun a ha => by
    rcases List.mem_append.mp ha with ha | ha
    · exact I.adok a ha
    · rw [List.mem_singleton.mp ha]
      exact (N _ (.head _)).2
  len := by simp [I.len]
  nodup := by
    rw [List.nodup_append]
    refine ⟨I.nodup, by simp, fun a ha b hb q => ?_⟩
    have e := List.mem_singleton.mp hb
    exact hx a (.inl ha) (q.trans e)
end

/-! attributes -/

section
variable {hb : Heap} {ad : List Addr}
theorem isStr_eq (s n : Str) (t : Tok) : (Value.str s t).isStr n = (s == n) := rfl
theorem DR.noRef {ns : List Str} {vs : List V} {es : List DictEntry} (h : DR hb ad ns vs es) : (es.any fun x => DictEntry.refKey x) = false := by
  induction h with
  | nil => rfl
  | cons _ _ ih => rw [List.any_cons, ih]; rfl
theorem DR.notKey {ns : List Str} {vs : List V} {es : List DictEntry} {n : Str} (h : DR hb ad ns vs es) (hn : n ∉ ns.take vs.length) : es.find? (fun x => Value.isStr (DictEntry.key x) n) = none := by
  induction h with
  | nil => rfl
  | @cons n' ns v vs hsh t x es a _ ih =>
    rw [List.length_cons, List.take_succ_cons, List.mem_cons, not_or] at hn
    rw [List.find?_cons]
    have : (Value.str n' t).isStr n = false := by rw [isStr_eq, beq_eq_false_iff_ne]; exact Ne.symm hn.1
    simp only [this]
    exact ih hn.2
theorem DR.find {ns : List Str} {vs : List V} {es : List DictEntry} (h : DR hb ad ns vs es) : ns.Nodup → ∀ {f : Nat} {n : Str} {v : V}, ns[f]? = some n → vs[f]? = some v →
    ∃ x, getL n es = some (some x) ∧ VR hb ad v x := by
  induction h with
  | nil => intro _ f n v _ e; simp at e
  | @cons n' ns v' vs hsh t x es a r ih =>
    intro hd f n v e1 e2
    have hd' := List.nodup_cons.mp hd
    cases f with
    | zero =>
      simp at e1 e2
      subst e1; subst e2
      refine ⟨x, ?_, a⟩
      unfold getL
      rw [List.find?_cons]
      have : (Value.str n' t).isStr n' = true := by rw [isStr_eq]; exact beq_self_eq_true _
      simp only [this]
    | succ f =>
      simp only [List.getElem?_cons_succ] at e1 e2
      obtain ⟨y, g, rv⟩ := ih hd'.2 e1 e2
      refine ⟨y, ?_, rv⟩
      unfold getL at g ⊢
      have : (Value.str n' t).isStr n = false := by
        rw [isStr_eq, beq_eq_false_iff_ne]
        intro q
        subst q
        exact hd'.1 (List.mem_of_getElem? e1)
      rw [List.find?_cons]
      simp only [this]
      split at g
      · rename_i e he
        rw [he]
        exact g
      · exfalso
        split at g <;> cases g
theorem DR.put {ns : List Str} {vs : List V} {es : List DictEntry} (h : DR hb ad ns vs es) : ns.Nodup → ∀ {f : Nat} {n : Str} {v : V} {x : Value} {hsh : Int} {tk : Tok}, ns[f]? = some n → f < vs.length → VR hb ad v x →
    DR hb ad ns (vs.set f v) (putL n hsh (.str n tk) x es) := by
  induction h with
  | nil => intro _ f n v x hsh tk _ e; simp at e
  | @cons n' ns v' vs hsh' t x' es a r ih =>
    intro hd f n v x hsh tk e1 e2 rv
    have hd' := List.nodup_cons.mp hd
    cases f with
    | zero =>
      simp at e1
      subst e1
      unfold putL
      have : (Value.str n' t).isStr n' = true := by rw [isStr_eq]; exact beq_self_eq_true _
      simp only [this, if_true]
      exact .cons rv r
    | succ f =>
      simp only [List.getElem?_cons_succ] at e1
      unfold putL
      have : (Value.str n' t).isStr n = false := by
        rw [isStr_eq, beq_eq_false_iff_ne]
        intro q
        subst q
        exact hd'.1 (List.mem_of_getElem? e1)
      simp only [this, Bool.false_eq_true, if_false]
      exact .cons a (ih hd'.2 e1 (by simpa using e2) rv)
theorem DR.add {ns : List Str} {vs : List V} {es : List DictEntry} (h : DR hb ad ns vs es) : ns.Nodup → ∀ {n : Str} {v : V} {x : Value} {hsh : Int} {tk : Tok}, ns[vs.length]? = some n → VR hb ad v x →
    DR hb ad ns (vs ++ [v]) (putL n hsh (.str n tk) x es) := by
  induction h with
  | @nil ns =>
    intro _ n v x hsh tk e rv
    cases ns with
    | nil => simp at e
    | cons a r =>
      simp at e
      subst e
      exact .cons rv .nil
  | @cons n' ns v' vs hsh' t x' es a r ih =>
    intro hd n v x hsh tk e1 rv
    have hd' := List.nodup_cons.mp hd
    simp only [List.length_cons, List.getElem?_cons_succ] at e1
    unfold putL
    have : (Value.str n' t).isStr n = false := by
      rw [isStr_eq, beq_eq_false_iff_ne]
      intro q
      subst q
      exact hd'.1 (List.mem_of_getElem? e1)
    simp only [this, Bool.false_eq_true, if_false]
    exact .cons a (ih hd'.2 e1 rv)
theorem DR.get_some {ns : List Str} {vs : List V} {es : List DictEntry} {n : Str} (h : DR hb ad ns vs es) : (getL n es).isSome = true := by
  unfold getL
  split
  · rfl
  · rw [h.noRef]; rfl
theorem VR.handed {v : V} {x : Value} (r : VR hb ad v x) : handedIn x = true := by
  cases v with
  | int i => obtain ⟨t, rfl⟩ := r; rfl
  | bool b => cases r; rfl
  | nul => cases r; rfl
  | ref i => obtain ⟨a, _, rfl⟩ := r; rfl
  | ext ns => obtain ⟨a, _, rfl, _⟩ := r; rfl
end

section
variable {prog : Program} {w : World} {K : Frag} {C : Addr} {P : Names} {G : Glb} {fs : List Fn} {mg mb : Str → Option Value} {hb : Heap} {L : Addr} {held : List (Addr × Obj)} {m : Str → Option Value} {ad : List Addr} {mem : Mem} {A : Around} {s : Shared}

theorem fields_inv {u : V} {d : Nat} {vs : List V} (h : fieldsOf mem u = some (d, vs)) : ∃ i, u = .ref i ∧ mem[i]? = some (.inst d) ∧ mem[d]? = some (.dict vs) := by
  unfold fieldsOf at h
  split at h
  · rename_i i
    split at h
    · rename_i d' h1
      split at h
      · rename_i vs' h2
        cases h
        exact ⟨i, rfl, h1, h2⟩
      · cases h
    · cases h
  · cases h

theorem inst_at {u : V} {d : Nat} {vs : List V} {val : Value} (I : Inv C P.attrs hb L held m ad mem s.heap) (h : fieldsOf mem u = some (d, vs)) (R : VR hb ad u val) :
    ∃ a dx es n, val = .ref a ∧ ad[d]? = some dx ∧ s.heap.get? dx = some (dictOf es n) ∧ DR hb ad P.attrs vs es ∧ InstAt s.heap a (instObj C dx) C (some (dictOf es n)) := by
  obtain ⟨i, rfl, h1, h2⟩ := fields_inv h
  obtain ⟨a, e, rfl⟩ := R
  obtain ⟨o, g, r⟩ := I.at h1 e
  obtain ⟨dx, e2, rfl⟩ := r
  obtain ⟨o2, g2, r2⟩ := I.at h2 e2
  obtain ⟨es, n, rfl, hd⟩ := r2
  exact ⟨a, dx, es, n, rfl, e2, g2, hd, ⟨g, rfl, rfl, g2⟩⟩

theorem attr_ok (W : Wd prog w K C P G fs mg mb hb) {u v : V} {d f : Nat} {vs : List V} {x : Str} {val : Value} {Q : Value → Shared → Prop} (I : Inv C P.attrs hb L held m ad mem s.heap) (hf : fieldsOf mem u = some (d, vs)) (hx : P.attrs[f]? = some x)
    (hv : vs[f]? = some v) (R : VR hb ad u val) (k : ∀ y tk, VR hb ad v y → Q y { s with toks := tk }) : wpAny (model prog w) A (getAttr val x true) Q NoE s := by
  obtain ⟨a, dx, es, n, rfl, e2, g2, hd, J⟩ := inst_at I hf R
  obtain ⟨y, hy, ry⟩ := hd.find W.nodup hx hv
  obtain ⟨w1, ⟨at', w2, w3⟩, w4⟩ := W.attr f x hx
  exact get_own I.fr W.kin J w1 W.hasd w2 w3 hy ry.handed (k y _ ry)

theorem setattr_ok (W : Wd prog w K C P G fs mg mb hb) {u v : V} {d f : Nat} {vs vs' : List V} {x : Str} {val y : Value} {Q : Unit → Shared → Prop} (I : Inv C P.attrs hb L held m ad mem s.heap) (hf : fieldsOf mem u = some (d, vs)) (hx : P.attrs[f]? = some x)
    (hv : (f < vs.length ∧ vs' = vs.set f v) ∨ (f = vs.length ∧ vs' = vs ++ [v])) (R : VR hb ad u val) (Ry : VR hb ad v y) (k : ∀ h' tk, Inv C P.attrs hb L held m ad (mem.set d (.dict vs')) h' → Q () { s with heap := h', toks := tk }) :
    wpAny (model prog w) A (setAttr val x y) Q NoE s := by
  obtain ⟨a, dx, es, n, rfl, e2, g2, hd, J⟩ := inst_at I hf R
  obtain ⟨w1, ⟨at', w2, w3⟩, w4⟩ := W.attr f x hx
  obtain ⟨led, N, _, hl⟩ := I.led
  have hput : DR hb ad P.attrs vs' (putL x (PyData.keyHash w.params x) (.str x (s.toks + 1)) y es) := by
    rcases hv with ⟨h1, rfl⟩ | ⟨h1, rfl⟩
    · exact hd.put W.nodup hx h1 Ry
    · exact hd.add W.nodup (h1 ▸ hx) Ry
  have hlen : vs'.length ≤ 1000 := by
    have h1 : f < P.attrs.length := (List.getElem?_eq_some_iff.mp hx).1
    have h2 := W.few
    have h3 : ∀ {ns : List Str} {vs : List V} {es : List DictEntry}, DR hb ad ns vs es → vs.length ≤ ns.length := by
      intro ns vs es h
      induction h with
      | nil => simp
      | cons _ _ ih => simp; exact ih
    have := h3 hput
    omega
  have hdm : dx ∈ ad := List.mem_of_getElem? e2
  have N2 : News hb L s.heap ((dx, dictOf es n) :: led.filter (fun p => p.1 != dx)) := by
    intro p hp
    rcases List.mem_cons.mp hp with rfl | hp
    · exact ⟨g2, I.adok dx hdm⟩
    · exact N p (List.mem_filter.mp hp).1
  refine set_dict I.fr W.kin N2 J rfl W.sa W.po w4 W.hasd hd.get_some rfl (.head fun p hp => ?_) (by rw [hput.length]; exact hlen) fun h' F' N' => ?_
  · simpa using (List.mem_filter.mp hp).2
  · refine k h' _ (I.set' e2 F'.ns F'.keep (fun b o hne hbo e => ?_) (N' _ (.head _)).1 ⟨_, _, rfl, hput⟩)
    exact (N' _ (.tail _ (List.mem_filter.mpr ⟨hl b o hbo e, by simpa using hne⟩))).1

/-! places of a sequence -/

theorem seq_inv {u : V} {vs : List V} {val : Value} (I : Inv C P.attrs hb L held m ad mem s.heap) (h : seqOf mem u = some vs) (R : VR hb ad u val) :
    ∃ a vals, val = .ref a ∧ VRs hb ad vs vals ∧ (s.heap.IsList a vals.toArray ∨ IsTup s.heap a vals.toArray) := by
  unfold seqOf at h
  split at h
  · rename_i i
    obtain ⟨a, e, rfl⟩ := R
    split at h
    · rename_i vs' h1
      cases h
      obtain ⟨o, g, r⟩ := I.at h1 e
      obtain ⟨vals, n, rfl, rv⟩ := r
      exact ⟨a, vals, rfl, rv, .inl ⟨_, g, rfl, n, rfl⟩⟩
    · rename_i vs' h1
      cases h
      obtain ⟨o, g, r⟩ := I.at h1 e
      obtain ⟨vals, n, rfl, rv⟩ := r
      exact ⟨a, vals, rfl, rv, .inr ⟨_, g, rfl, n, rfl⟩⟩
    · cases h
  · cases h

theorem tuple_getitem_lookup : typeLookup (Value.type "tuple") (Str.ofString "__getitem__") = pure (some (Value.builtin "tuple.__getitem__")) := slot_tuple_getitem.lookup

theorem get_at {a : Addr} {vals : List Value} {k : Int} {n : Nat} {t : Tok} {x : Value} {Q : Value → Shared → Prop} (hl : s.heap.IsList a vals.toArray ∨ IsTup s.heap a vals.toArray) (hk : place k = some n) (hx : vals[n]? = some x) (q : Q x s) :
    wpAny (model prog w) A (getItem (.ref a) (.int k t)) Q NoE s := by
  obtain ⟨h0, h1, h2⟩ := place_ok hk
  have h3 : k < 2 ^ 63 := by omega
  rcases hl with hl | hl
  · with_reducible refine wpAny_getItem_list hl h0 h3 ?_ q
    rw [h2]; simpa using hx
  · have hlt : n < vals.length := (List.getElem?_eq_some_iff.mp hx).1
    with_reducible refine PyProof.Rows.getItem_tuple (j := n) hl (by omega) h3 ?_ ?_ q
    · rw [← h2]
      exact seqIndex_place h0 (by rw [h2]; simpa using hlt)
    · simpa using hx

theorem sub_at {a : Addr} {vals : List Value} {k : Int} {n : Nat} {t : Tok} {x : Value} {value slice : Expr} {Q : Value → Shared → Prop} (hl : s.heap.IsList a vals.toArray ∨ IsTup s.heap a vals.toArray) (hk : place k = some n) (hx : vals[n]? = some x) (q : Q x s)
    (hs : subscripted slice false (.ref a) (.int k t) = operate [.ref a, .int k t] (getItem (.ref a) (.int k t))) :
    wpAny (model prog w) A (subscriptTail value slice (.ref a) (.int k t)) Q NoE s := by
  have hg := get_at (prog := prog) (w := w) (A := A) (t := t) hl hk hx q
  rcases hl with hl | hl
  · exact tail_any hl.typeIs list_getitem_lookup hg hs
  · exact tail_any hl.typeIs tuple_getitem_lookup hg hs
end
end Mine
end
section
open PySem PySem.W PySem.Calls PyProof.Rows PySem.Spec
namespace Mine

noncomputable def shape : Expr → Bool
  | .Constant .. | .Name .. | .BinOp .. | .UnaryOp .. | .Compare .. | .BoolOp .. | .IfExp .. | .Attribute .. | .Subscript .. | .Tuple .. | .List .. | .Call .. => true
  | _ => false

theorem cE_shape {P : Names} {c : Sc} {e : E} {x : Expr} (h : cE P c e x = true) : shape x = true := by
  cases e with
  | lit => obtain ⟨_, _, _, rfl, _⟩ := cE_lit h; rfl
  | tt => obtain ⟨_, _, _, rfl, _⟩ := cE_tt h; rfl
  | nul => obtain ⟨_, _, rfl, _⟩ := cE_nul h; rfl
  | loc => obtain ⟨_, _, rfl, _⟩ := cE_loc h; rfl
  | gint => obtain ⟨_, _, rfl, _⟩ := cE_gint h; rfl
  | bin => obtain ⟨_, _, _, _, rfl, _⟩ := cE_bin h; rfl
  | neg => obtain ⟨_, _, rfl, _⟩ := cE_neg h; rfl
  | inv => obtain ⟨_, _, rfl, _⟩ := cE_inv h; rfl
  | cmp => obtain ⟨_, _, _, _, rfl, _⟩ := cE_cmp h; rfl
  | chain => obtain ⟨_, _, _, _, _, _, rfl, _⟩ := cE_chain h; rfl
  | and => obtain ⟨_, _, _, rfl, _⟩ := cE_and h; rfl
  | or => obtain ⟨_, _, _, rfl, _⟩ := cE_or h; rfl
  | ors => obtain ⟨_, _, rfl, _⟩ := cE_ors h; rfl
  | ite => obtain ⟨_, _, _, _, rfl, _⟩ := cE_ite h; rfl
  | attr => obtain ⟨_, _, _, rfl, _⟩ := cE_attr h; rfl
  | idx => obtain ⟨_, _, _, rfl, _⟩ := cE_idx h; rfl
  | gidx => obtain ⟨_, _, _, _, rfl, _⟩ := cE_gidx h; rfl
  | tup => obtain ⟨_, _, _, rfl, _⟩ := cE_tup h; rfl
  | list => obtain ⟨_, _, rfl, _⟩ := cE_list h; rfl
  | rep => obtain ⟨_, _, _, _, rfl, _⟩ := cE_rep h; rfl
  | cat => obtain ⟨_, _, _, rfl, _⟩ := cE_cat h; rfl
  | take => obtain ⟨_, _, _, _, _, _, rfl, _⟩ := cE_take h; rfl
  | call => obtain ⟨_, _, _, _, rfl, _⟩ := cE_call h; rfl
  | new => obtain ⟨_, _, _, _, rfl, _⟩ := cE_new h; rfl
  | range => obtain ⟨_, _, _, _, rfl, _⟩ := cE_range h; rfl
  | len => obtain ⟨_, _, _, _, rfl, _⟩ := cE_len h; rfl
  | tne => obtain ⟨_, _, _, rfl, _⟩ := cE_tne h; rfl

theorem star_shape {x : Expr} {r : List Expr} {env : Env} (h : shape x = true) : starEach (x :: r) env = (false, eval x env) :: starEach r env := by
  cases x <;> first | rfl | cases h
theorem swaps_shape {x : Expr} {t : Option Expr} {n : Nat} {env : Env} (h : shape x = true) : swapsWith x t n env = pure false := by
  cases x <;> first | rfl | cases h
theorem folded_shape {x : Expr} {env : Env} (h : shape x = true) : ∀ v, foldedSetIterable x env v = pure v := by
  intro v
  cases x <;> first | rfl | cases h
theorem sub_shape {x : Expr} {o i : Value} (h : shape x = true) : subscripted x false o i = operate [o, i] (getItem o i) := by
  cases x <;> first | rfl | cases h
theorem aug_shape {x : Expr} (h : shape x = true) : ∀ ov iv new, augStore x ov iv new = (do holding [new, ov, iv] (setItem ov iv new); release [new, ov, iv] []; pure .next) := by
  intro ov iv new
  cases x <;> first | rfl | cases h
theorem star_all {P : Names} {c : Sc} {env : Env} : ∀ {es : List E} {xs : List Expr}, cEs P c es xs = true → starEach xs env = xs.map fun x => (false, eval x env)
  | [], [], _ => rfl
  | [], _ :: _, h => by exact ff h
  | _ :: _, [], h => by exact ff h
  | e :: es, x :: xs, h => by
    replace h : cE P c e x = true ∧ cEs P c es xs = true := Bool.and_eq_true_iff.mp h
    rw [star_shape (cE_shape h.1), star_all h.2]
    rfl
theorem back_all {pos : Pos} {xs : List Expr} {env : Env} : backTo pos (xs.map fun x => (false, eval x env)) = xs.map fun x => (false, eval x env) := by
  unfold backTo
  rw [List.map_map]
  rfl
theorem plain_all {xs : List Expr} {env : Env} : ((xs.map fun x => (false, eval x env)).any fun x => x.1) = false := by
  induction xs with
  | nil => rfl
  | cons x r ih => rw [List.map_cons, List.any_cons, ih]; rfl

theorem behind {op : CmpOp} {o : Cm} {x : Expr} (h : cmOf op = some o) : behindInMarks op x = false := by
  cases op <;> first | (cases h; done) | (cases x <;> rfl) | (cases x <;> simp [behindInMarks])

theorem lastMarks2 {op op' : CmpOp} {x y : Expr} (_h : behindInMarks op x = false) (h' : behindInMarks op' y = false) : lastMarks [op, op'] [x, y] = false := by
  simp [lastMarks, h']

theorem testChain2 {M : Model} {A : Around} {E : Value → Shared → Prop} {s : Shared} {pos : Pos} {a : Value} {op op' : CmpOp} {t t' : Sem Value} {Q : Bool → Shared → Prop}
    (h : wpAny M A t (fun b s₁ => wpAny M A (compareOp op a b) (fun c s₂ => wpAny M A (truthy c) (fun r s₃ => if r = true then wpAny M A t' (fun d s₄ => wpAny M A (compareOp op' b d) (fun e s₅ => wpAny M A (truthy e) Q E s₅) E s₄) E s₃ else Q false s₃) E s₂) E s₁) E s) :
    wpAny M A (testChain pos a [op, op'] [t, t']) Q E s := by
  unfold testChain
  refine wpAny_bind (wpAny_holding (wpAny_mono h (fun b s₁ h₁ => wpAny_bind (wpAny_standAt (wpAny_bind (wpAny_holding (wpAny_mono h₁ (fun c s₂ h₂ => wpAny_bind (wpAny_release (wpAny_bind (wpAny_holding (wpAny_mono h₂ (fun r s₃ h₃ => ?_) fun _ _ e => e)))) ) fun _ _ e => e))))) fun _ _ e => e))
  cases r with
  | false => rw [if_neg (by simp)] at h₃ ⊢; exact wpAny_pure h₃
  | true =>
    rw [if_pos rfl] at h₃ ⊢
    unfold testChain
    exact wpAny_bind (wpAny_holding (wpAny_mono h₃ (fun d s₄ h₄ => wpAny_bind (wpAny_standAt (wpAny_bind (wpAny_operate' (wpAny_mono h₄ (fun e s₅ h₅ => wpAny_holding h₅) fun _ _ e => e))))) fun _ _ e => e))

noncomputable def OOk (n : Nat) (A : Around) : Prop := A.handled = none ∧ A.depth + 2 * n + 1 < recursionLimit ∧ A.units + 20 * n + 90 < cLine
theorem AOk.call {n : Nat} {A : Around} (h : AOk n A) : OOk n A := ⟨h.1, by have := h.2.1; omega, by have := h.2.2; omega⟩

noncomputable def OSound (prog : Program) (w : World) (C : Addr) (P : Names) (fs : List Fn) (hb : Heap) (n : Nat) (Γ : Orc) : Prop :=
  ∀ f args mem v mem', Γ f args mem = some (v, mem') → ∀ (A : Around) (L : Addr) (held : List (Addr × Obj)) (m : Str → Option Value) (ad : List Addr) (s : Shared) (R : Result → Shared → Prop) (a : Addr) (vals : List Value),
    OOk n A → FnAt P fs hb a f → Inv C P.attrs hb L held m ad mem s.heap → VRs hb ad args vals →
    (∀ val h' tk ad', Inv C P.attrs hb L held m ad' mem' h' → ad <+: ad' → VR hb ad' v val → R (.ok (.ret val)) { s with heap := h', toks := tk }) →
    codeAny (model prog w) A (.call (.ref a) ⟨vals, []⟩) R s

section
variable {prog : Program} {w : World} {K : Frag} {C : Addr} {P : Names} {G : Glb} {fs : List Fn} {mg mb : Str → Option Value} {hb : Heap}
variable {n : Nat} {Γ : Orc} {c : Sc} {env : Env} {L : Addr} {held : List (Addr × Obj)} {A : Around} {l : Loc} {m : Str → Option Value}

/-- what an evaluation hands on -/
noncomputable abbrev Ret (C : Addr) (P : Names) (hb : Heap) (L : Addr) (held : List (Addr × Obj)) (m : Str → Option Value) (ad : List Addr) (mem' : Mem) (v : V) (s : Shared) (Q : Value → Shared → Prop) : Prop :=
  ∀ val h' tk ad', Inv C P.attrs hb L held m ad' mem' h' → ad <+: ad' → VR hb ad' v val → Q val { s with heap := h', toks := tk }

theorem loc_ok (HE : EnvOk c env L) {x : Nat} {v : V} {id : Str} {pos : Pos} {ad : List Addr} {mem : Mem} {s : Shared} {Q : Value → Shared → Prop} (hx : c.loc[x]? = some id) (hv : l[x]? = some (some v))
    (I : Inv C P.attrs hb L held m ad mem s.heap) (LR : LocR hb c.loc ad l m) (k : ∀ val, VR hb ad v val → Q val s) : wpAny (model prog w) A (loadName env id) Q NoE s := by
  obtain ⟨id', val, h1, h2, h3⟩ := LR.2 x v hv
  rw [hx] at h1
  cases h1
  obtain ⟨k1, _⟩ := HE.kl id (List.mem_of_getElem? hx)
  exact wpAny_loadName_local HE.kind k1 (by rw [HE.loc]; exact I.ns) h2 (k val h3)

theorem glob_ok (HE : EnvOk c env L) (W : Wd prog w K C P G fs mg mb hb) {id : Str} {pos : Pos} {val : Value} {ad : List Addr} {mem : Mem} {s : Shared} {Q : Value → Shared → Prop} (hg : c.glob.contains id = true) (hv : mg id = some val)
    (I : Inv C P.attrs hb L held m ad mem s.heap) (k : Q val s) : wpAny (model prog w) A (eval (.Name id pos) env) Q NoE s := by
  obtain ⟨k1, k2⟩ := HE.kg id hg
  exact Name_function_global HE.kind k1 (loadGlobal_global (by rw [HE.glb]; exact W.g.keeps I.base) hv k) k2
theorem blt_ok (HE : EnvOk c env L) (W : Wd prog w K C P G fs mg mb hb) {id : Str} {pos : Pos} {val : Value} {ad : List Addr} {mem : Mem} {s : Shared} {Q : Value → Shared → Prop} (hg : c.glob.contains id = true) (hv : mg id = none) (hv' : mb id = some val)
    (I : Inv C P.attrs hb L held m ad mem s.heap) (k : Q val s) : wpAny (model prog w) A (eval (.Name id pos) env) Q NoE s := by
  obtain ⟨k1, k2⟩ := HE.kg id hg
  exact Name_function_global HE.kind k1 (loadGlobal_builtin (by rw [HE.glb]; exact W.g.keeps I.base) hv (by rw [HE.blt]; exact W.b.keeps I.base) hv' k) k2

theorem gl_inv {c : Sc} {o : Option Str} {id : Str} (h : gl c o id = true) : o = some id ∧ c.glob.contains id = true := by
  unfold gl at h
  rw [Bool.and_eq_true] at h
  exact ⟨by simpa using h.1, h.2⟩

theorem under_ok {n : Nat} {A : Around} {C : Addr} {vals : List Value} (h : AOk n A) : OOk n (A.under (.builtin "type.__call__" ⟨.ref C :: vals, []⟩)) := by
  refine ⟨h.1, ?_, ?_⟩
  · have e : (A.under (.builtin "type.__call__" ⟨.ref C :: vals, []⟩)).depth = A.depth + 1 := by
      unfold Around.under
      rfl
    have := h.2.1
    omega
  · have e : (A.under (.builtin "type.__call__" ⟨.ref C :: vals, []⟩)).units = A.units + 1 := rfl
    have := h.2.2
    omega

theorem evals_cons {xs : List Expr} {x : Expr} {s : Shared} {E : Value → Shared → Prop} {M : Model} {Q : List Value → Shared → Prop}
    (h : wpAny M A (eval x env) (fun v s₁ => wpAny M A (spliced (xs.map fun x => (false, eval x env))) (fun vs s₂ => Q (v :: vs) s₂) E s₁) E s) :
    wpAny M A (spliced ((x :: xs).map fun x => (false, eval x env))) Q E s := Calls.spliced_cons h

theorem isTrue_val {x : Expr} {s : Shared} {E : Value → Shared → Prop} {M : Model} {Q : Bool → Shared → Prop} (hx : match x with | .Name .. | .BinOp .. | .Attribute .. | .Call .. => True | _ => False)
    (h : wpAny M A (eval x env) (fun v s₁ => wpAny M A (truthy v) Q E s₁) E s) : wpAny M A (PySem.isTrue x env (eval x env)) Q E s := by
  cases x <;> first | exact hx.elim | exact wpAny_isTrue_value h

theorem foldl_one (x : Value) : ∀ (k : Nat) (acc : Array Value), List.foldl (fun x1 x2 => x1 ++ x2) acc (List.replicate k #[x]) = acc ++ (List.replicate k x).toArray
  | 0, acc => by simp
  | k + 1, acc => by
    rw [List.replicate_succ, List.foldl_cons, foldl_one x k, List.replicate_succ]
    apply Array.toList_inj.mp
    simp

theorem mul_ok {s : Shared} {ad : List Addr} {mem : Mem} {i : Nat} {v : V} {k : Int} {x y : Value} {Q : Value → Shared → Prop} (I : Inv C P.attrs hb L held m ad mem s.heap) (hm : mem[i]? = some (.list [v])) (h1 : k < 1000) (h2 : -1000 < k)
    (R1 : VR hb ad (.ref i) x) (R2 : VR hb ad (.int k) y) (q : Ret C P hb L held m ad (mem ++ [.list (List.replicate k.toNat v)]) (.ref mem.length) s Q) : wpAny (model prog w) A (binaryOp .Mult x y) Q NoE s := by
  obtain ⟨a, ha, rfl⟩ := R1
  obtain ⟨t, rfl⟩ := R2
  obtain ⟨o, g, vals, n, rfl, rv⟩ := I.at hm ha
  cases rv with
  | @cons _ x1 _ xs r1 rr =>
    cases rr
    obtain ⟨led, N, hlt, hl⟩ := I.led
    with_reducible refine PyProof.Rows.mul_list I.fr N g (by omega) (by omega) (by simp; omega) fun h' F' N' => ?_
    have e : List.foldl (fun x1 x2 => x1 ++ x2) #[] (List.replicate (if (#[x1] : Array Value).isEmpty = true then 0 else k.toNat) #[x1]) = (List.replicate k.toNat x1).toArray := by
      have : (#[x1] : Array Value).isEmpty = false := rfl
      rw [this, if_neg (by simp), foldl_one]
      apply Array.toList_inj.mp
      simp
    have r' := (VRs.replicate r1 k.toNat).mono (List.prefix_append ad [s.heap.objs.size])
    refine q _ h' s.toks _ (I.newOf hl F' N' (fun b hb e => ?_) ⟨_, 0, by rw [← e], r'⟩) (List.prefix_append _ _) ⟨_, ?_, rfl⟩
    · rcases hb with hb | ⟨p, hp, rfl⟩
      · exact absurd (I.lt hb) (by rw [e]; exact Nat.lt_irrefl _)
      · exact absurd (Heap.lt_size (I.held p hp).1) (by rw [e]; exact Nat.lt_irrefl _)
    · rw [← I.len]; simp

theorem cat_ok {s : Shared} {ad : List Addr} {mem : Mem} {i j : Nat} {us vs : List V} {x y : Value} {Q : Value → Shared → Prop} (I : Inv C P.attrs hb L held m ad mem s.heap) (hi : mem[i]? = some (.list us)) (hj : mem[j]? = some (.list vs))
    (hlen : us.length + vs.length ≤ 1000) (R1 : VR hb ad (.ref i) x) (R2 : VR hb ad (.ref j) y) (q : Ret C P hb L held m ad (mem ++ [.list (us ++ vs)]) (.ref mem.length) s Q) : wpAny (model prog w) A (binaryOp .Add x y) Q NoE s := by
  obtain ⟨a, ha, rfl⟩ := R1
  obtain ⟨b, hb', rfl⟩ := R2
  obtain ⟨o, g, vals, n, rfl, rv⟩ := I.at hi ha
  obtain ⟨o2, g2, vals2, n2, rfl, rv2⟩ := I.at hj hb'
  obtain ⟨led, N, hlt, hl⟩ := I.led
  refine add_arrays (its := vals.toArray) (its2 := vals2.toArray) I.fr N ⟨_, g, rfl, n, rfl⟩ ⟨_, g2, rfl, n2, rfl⟩ (fun h' F' N' => ?_) ?_
  · have r' := (rv.append rv2).mono (List.prefix_append ad [s.heap.objs.size])
    refine q _ h' s.toks _ (I.newOf hl F' N' (fun b hb e => ?_) ⟨vals ++ vals2, 0, rfl, r'⟩) (List.prefix_append _ _) ⟨_, ?_, rfl⟩
    · rcases hb with hb | ⟨p, hp, rfl⟩
      · exact absurd (I.lt hb) (by rw [e]; exact Nat.lt_irrefl _)
      · exact absurd (Heap.lt_size (I.held p hp).1) (by rw [e]; exact Nat.lt_irrefl _)
    · rw [← I.len]; simp
  · rw [List.size_toArray, List.size_toArray, rv.length, rv2.length]
    exact Nat.le_trans hlen (by decide)

theorem tne_ok {s : Shared} {ad : List Addr} {mem : Mem} {i j : Nat} {us vs : List V} {ns ms : List Int} {x y : Value} {Q : Value → Shared → Prop} (HA : AOk n A) (I : Inv C P.attrs hb L held m ad mem s.heap) (hi : mem[i]? = some (.tup us)) (hj : mem[j]? = some (.tup vs))
    (h1 : ints? us = some ns) (h2 : ints? vs = some ms) (R1 : VR hb ad (.ref i) x) (R2 : VR hb ad (.ref j) y) (q : Q (.bool (!decide (ns = ms))) s) : wpAny (model prog w) A (compareOp .NotEq x y) Q NoE s := by
  obtain ⟨a, ha, rfl⟩ := R1
  obtain ⟨b, hb', rfl⟩ := R2
  obtain ⟨o, g, vals, n, rfl, rv⟩ := I.at hi ha
  obtain ⟨o2, g2, vals2, n2, rfl, rv2⟩ := I.at hj hb'
  have t1 : Reads s.heap (.ref a) (.tuple (ns.map PyData.int)) [] := Reads.tuple g rfl rfl (by simpa using readsAll_of_ints (rv.ints h1))
  have t2 : Reads s.heap (.ref b) (.tuple (ms.map PyData.int)) [] := Reads.tuple g2 rfl rfl (by simpa using readsAll_of_ints (rv2.ints h2))
  have sh : ∀ ks : List Int, SeqAt.shaped (.tuple (ks.map PyData.int)) = true := by
    intro ks
    have h1 := PySem.W.depthAll_ints ks
    have h2 : PyData.depth (.tuple (ks.map PyData.int)) ≤ 64 := by simp only [PyData.depth]; omega
    show (PyData.canLay0 (.tuple (ks.map PyData.int)) && decide (PyData.depth (.tuple (ks.map PyData.int)) ≤ 64)) = true
    rw [Bool.and_eq_true]
    exact ⟨by simp only [PyData.canLay0]; exact canLayAll0_ints ks, decide_eq_true h2⟩
  refine ne_dataH_same t1 t2 (sh ns) (sh ms) (by have := HA.2.2; omega) ?_ ?_
  · simp only [SeqAt.noMix]; exact noMix_ints ns ms
  · simp only [PySem.Spec.same]; rw [same_ints]; exact q

theorem range_ok {s : Shared} {ad : List Addr} {mem : Mem} {vs : List V} {o : O} {vals : List Value} {Q : Value → Shared → Prop} (I : Inv C P.attrs hb L held m ad mem s.heap) (h : mkRange vs = some o) (R : VRs hb ad vs vals)
    (q : Ret C P hb L held m ad (mem ++ [o]) (.ref mem.length) s Q) : wpAny (model prog w) A (call (.type "range") vals) Q NoE s := by
  have fin : ∀ (a b c : Int) (t u v : Tok) (tk : Nat), rangeOk a b c = true → o = .range a b c → Q (.ref s.heap.objs.size) { s with heap := s.heap.push { cls := .type "range", data := .fields #[.int a t, .int b u, .int c v] }, toks := tk } := by
    intro a b c t u v tk hr ho
    subst ho
    exact q _ _ _ _ (I.alloc ⟨t, u, v, rfl, hr⟩) (List.prefix_append _ _) ⟨_, by rw [← I.len]; simp, rfl⟩
  unfold mkRange at h
  split at h
  · split at h
    · rename_i b hr
      cases h
      cases R with
      | cons r1 rr => cases rr; obtain ⟨t, rfl⟩ := r1; exact call_range_1 (fin _ _ _ _ _ _ _ hr rfl)
    · cases h
  · split at h
    · rename_i a b hr
      cases h
      cases R with
      | cons r1 rr =>
        cases rr with
        | cons r2 rr => cases rr; obtain ⟨t, rfl⟩ := r1; obtain ⟨u, rfl⟩ := r2; exact call_range_2 (fin _ _ _ _ _ _ _ hr rfl)
    · cases h
  · split at h
    · rename_i a b c hr
      cases h
      cases R with
      | cons r1 rr =>
        cases rr with
        | cons r2 rr =>
          cases rr with
          | cons r3 rr =>
            cases rr
            obtain ⟨t, rfl⟩ := r1
            obtain ⟨u, rfl⟩ := r2
            obtain ⟨v, rfl⟩ := r3
            have hc : c = 1 ∨ c = -1 ∨ c = 2 := by
              simp only [rangeOk, Bool.and_eq_true, Bool.or_eq_true, beq_iff_eq] at hr
              omega
            refine call_range_3 (by omega) (fin _ _ _ _ _ _ _ hr rfl) (.inl (PyProof.noPylong_small (by omega)))
    · cases h
  · cases h

theorem callWith_plain {xs : List Expr} {pos : Pos} {a : Addr} {o : Obj} {fd : FuncData} {s : Shared} {Q : Value → Shared → Prop} (hx : someE xs = true)
    (h : wpAny (model prog w) A (spliced (xs.map fun x => (false, eval x env))) (fun vs s₁ => (s₁.heap.get? a = some o ∧ o.data = .func fd) ∧ wpAny (model prog w) A (call (.ref a) vs) Q NoE s₁) NoE s) :
    wpAny (model prog w) A (callWith pos (.ref a) [] (xs.map fun x => (false, eval x env)) []) Q NoE s := by
  cases xs with
  | nil => cases hx
  | cons x r => exact callWith_function_kw (evalArgs_plain h)

theorem name_call {P : Names} {es : List E} {xs : List Expr} {c : Sc} {id : Str} {p pos : Pos} {s : Shared} {Q : Value → Shared → Prop} (hc : cEs P c es xs = true)
    (h : wpAny (model prog w) A (eval (.Name id p) env) (fun f s₁ => wpAny (model prog w) A (callWith pos f [] (xs.map fun x => (false, eval x env)) []) Q NoE s₁) NoE s) :
    wpAny (model prog w) A (eval (.Call (.Name id p) xs [] pos) env) Q NoE s := by
  refine wpAny_Call_NameR ?_
  rw [star_all hc, back_all]
  exact h

theorem ret_call {s : Shared} {a : Addr} {vals : List Value} {f : Nat} {args : List V} {mem mem' : Mem} {v : V} {ad : List Addr} {Q : Value → Shared → Prop} (HO : OSound prog w C P fs hb n Γ) (HA : OOk n A) (hf : FnAt P fs hb a f) (hg : Γ f args mem = some (v, mem'))
    (I : Inv C P.attrs hb L held m ad mem s.heap) (R : VRs hb ad args vals) (q : Ret C P hb L held m ad mem' v s Q) : wpAny (model prog w) A (call (.ref a) vals) Q NoE s := by
  refine wpAny_call ?_
  exact HO f args mem v mem' hg A L held m ad s _ a vals HA hf I R fun val h' tk ad' I' p r => q val h' tk ad' I' p r

theorem new_ok {s : Shared} {vals : List Value} {args : List V} {mem mem' : Mem} {ad : List Addr} {Q : Value → Shared → Prop} (W : Wd prog w K C P G fs mg mb hb) (HO : OSound prog w C P fs hb n Γ) (HA : AOk n A)
    (hg : Γ G.gnew (.ref (mem.length + 1) :: args) (mem ++ [.dict [], .inst mem.length]) = some (.nul, mem')) (I : Inv C P.attrs hb L held m ad mem s.heap) (R : VRs hb ad args vals)
    (q : Ret C P hb L held m ad mem' (.ref (mem.length + 1)) s Q) : wpAny (model prog w) A (call (.ref C) vals) Q NoE s := by
  refine wpAny_call ?_
  obtain ⟨led, N, hlt, hl⟩ := I.led
  obtain ⟨fI, i1, i2, i3⟩ := W.ini
  refine make_K I.fr N (W.kin.keeps I.base) W.mkb i1 i2 fun x dx h' F' N' lt1 lt2 => ?_
  have old : ∀ b, (b ∈ ad ∨ ∃ p ∈ held, p.1 = b) → b < dx := by
    intro b hb
    have : ∃ o, (b, o) ∈ led := by
      rcases hb with hb' | ⟨p, hp, rfl⟩
      · obtain ⟨i, hi, rfl⟩ := List.getElem_of_mem hb'
        have hi' : i < mem.length := by rw [← I.len]; exact hi
        obtain ⟨a', o, e1, g, _⟩ := I.cell i mem[i] (List.getElem?_eq_getElem hi')
        rw [List.getElem?_eq_getElem hi] at e1
        cases e1
        exact ⟨o, hl _ _ (.inl hb') g⟩
      · exact ⟨p.2, hl _ _ (.inr ⟨p, hp, rfl⟩) (I.held p hp).1⟩
    obtain ⟨o, ho⟩ := this
    exact lt1 _ ho
  have N1 : News hb L h' ((dx, emptyDict) :: led) := fun p hp => N' p (.tail _ hp)
  have N2 : News hb L h' ((x, instObj C dx) :: (dx, emptyDict) :: led) := N'
  have I1 := I.newOf (c := .dict []) hl F' N1 (fun b hb => Nat.ne_of_lt (old b hb)) ⟨[], 0, rfl, .nil⟩
  have I2 := I1.newOf (c := .inst mem.length) (x := x) (o := instObj C dx) (led := (dx, emptyDict) :: led) (h' := h') (fun b o hbo e => ?_) F' N2 (fun b hb => ?_) ⟨dx, ?_, rfl⟩
  · refine HO _ _ _ _ _ hg _ _ _ _ _ _ _ _ _ (under_ok HA) i3 (by simpa using I2) (.cons ⟨x, ?_, rfl⟩ (R.mono ?_)) fun val h'' tk ad' I' p r => ?_
    · rw [← I.len]; simp
    · exact List.prefix_append _ _
    · cases r
      refine ⟨rfl, q _ _ _ _ I' ((List.prefix_append _ _).trans p) ⟨x, pre_get p ?_, rfl⟩⟩
      rw [← I.len]; simp
  · have hb' : b ∈ ad ++ [dx] ∨ ∃ p ∈ held, p.1 = b := hbo
    have key : (b ∈ ad ∨ ∃ p ∈ held, p.1 = b) → (b, o) ∈ (dx, emptyDict) :: led := by
      intro hbo'
      cases hq : s.heap.get? b with
      | none =>
        exfalso
        rcases hbo' with h1 | ⟨p, hp, rfl⟩
        · have := I.lt h1
          obtain ⟨i, hi, rfl⟩ := List.getElem_of_mem h1
          have hi' : i < mem.length := by rw [← I.len]; exact hi
          obtain ⟨a', o, e1, g, _⟩ := I.cell i mem[i] (List.getElem?_eq_getElem hi')
          rw [List.getElem?_eq_getElem hi] at e1
          cases e1
          rw [hq] at g; cases g
        · rw [(I.held p hp).1] at hq; cases hq
      | some o' =>
        have h1 := hl b o' hbo' hq
        have h2 := (N1 _ (.tail _ h1)).1
        rw [e] at h2
        cases h2
        exact .tail _ h1
    rcases hb' with h1 | h1
    · rcases List.mem_append.mp h1 with h1 | h1
      · exact key (.inl h1)
      · have hbx := List.mem_singleton.mp h1
        subst hbx
        have := (N1 _ (.head _)).1
        rw [e] at this
        cases this
        exact .head _
    · exact key (.inr h1)
  · rcases hb with h1 | h1
    · rcases List.mem_append.mp h1 with h1 | h1
      · exact Nat.ne_of_lt (Nat.lt_trans (old b (.inl h1)) lt2)
      · rw [List.mem_singleton.mp h1]; exact Nat.ne_of_lt lt2
    · exact Nat.ne_of_lt (Nat.lt_trans (old b (.inr h1)) lt2)
  · rw [← I.len]; simp

variable (W : Wd prog w K C P G fs mg mb hb) (HO : OSound prog w C P fs hb n Γ) (HE : EnvOk c env L) (HA : AOk n A)
include W HO HE HA

set_option maxHeartbeats 4000000
mutual
theorem ev_sound : ∀ (e : E) {x : Expr} {mem mem' : Mem} {v : V} {s : Shared} {ad : List Addr} {Q : Value → Shared → Prop}, cE P c e x = true → ev G Γ l e mem = some (v, mem') →
    Inv C P.attrs hb L held m ad mem s.heap → LocR hb c.loc ad l m → Ret C P hb L held m ad mem' v s Q → wpAny (model prog w) A (eval x env) Q NoE s
  | .lit i, x, mem, mem', v, s, ad, Q, hc, he, I, LR, k => by
    replace hc := cE_lit hc
    obtain ⟨_, _, _, rfl, hc⟩ := hc
    simp only [beq_iff_eq] at hc
    subst hc
    simp only [ev, Option.some.injEq, Prod.mk.injEq] at he
    obtain ⟨rfl, rfl⟩ := he
    exact wpAny_Constant_int (k _ _ _ _ I (List.prefix_refl _) (VR.int _ _))
  | .tt b, x, mem, mem', v, s, ad, Q, hc, he, I, LR, k => by
    replace hc := cE_tt hc
    obtain ⟨_, _, _, rfl, hc⟩ := hc
    simp only [beq_iff_eq] at hc
    subst hc
    simp only [ev, Option.some.injEq, Prod.mk.injEq] at he
    obtain ⟨rfl, rfl⟩ := he
    exact wpAny_Constant_bool (k _ _ _ _ I (List.prefix_refl _) rfl)
  | .nul, x, mem, mem', v, s, ad, Q, hc, he, I, LR, k => by
    replace hc := cE_nul hc
    obtain ⟨_, _, rfl, hc⟩ := hc
    simp only [ev, Option.some.injEq, Prod.mk.injEq] at he
    obtain ⟨rfl, rfl⟩ := he
    exact wpAny_Constant_none (k _ _ _ _ I (List.prefix_refl _) rfl)
  | .loc y, x, mem, mem', v, s, ad, Q, hc, he, I, LR, k => by
    replace hc := cE_loc hc
    obtain ⟨id, pos, rfl, hc⟩ := hc
    simp only [beq_iff_eq] at hc
    simp only [ev] at he
    split at he
    · rename_i u hu
      cases he
      exact wpAny_Name (loc_ok (pos := pos) HE hc hu I LR fun val r => k _ _ _ _ I (List.prefix_refl _) r) (HE.kl id (List.mem_of_getElem? hc)).2
    · cases he
  | .gint g, x, mem, mem', v, s, ad, Q, hc, he, I, LR, k => by
    replace hc := cE_gint hc
    obtain ⟨_, _, rfl, hc⟩ := hc
    obtain ⟨h1, h2⟩ := gl_inv hc
    simp only [ev] at he
    split at he
    · rename_i i hi
      cases he
      obtain ⟨t, ht⟩ := W.gi g _ i h1 hi
      exact glob_ok HE W h2 ht I (k _ _ _ _ I (List.prefix_refl _) (VR.int _ _))
    · cases he
  | .bin o a b, x, mem, mem', v, s, ad, Q, hc, he, I, LR, k => by
    replace hc := cE_bin hc
    obtain ⟨_, _, _, _, rfl, hc⟩ := hc
    simp only [Bool.and_eq_true, beq_iff_eq] at hc
    simp only [ev, Option.bind_eq_some_iff, Option.map_eq_some_iff] at he
    obtain ⟨⟨v1, m1⟩, h1, ⟨v2, m2⟩, h2, r, h3, h4⟩ := he
    cases h4
    refine wpAny_BinOp (ev_sound a hc.1.2 h1 I LR fun x1 h' tk ad1 I1 p1 r1 => ev_sound b hc.2 h2 I1 (LR.mono p1) fun x2 h2' tk2 ad2 I2 p2 r2 => ?_)
    exact vbin_ok hc.1.1 h3 (r1.mono p2) r2 fun val tk3 r3 => k val _ _ _ I2 (p1.trans p2) r3
  | .neg a, x, mem, mem', v, s, ad, Q, hc, he, I, LR, k => by
    replace hc := cE_neg hc
    obtain ⟨_, _, rfl, hc⟩ := hc
    simp only [ev, Option.bind_eq_some_iff] at he
    obtain ⟨⟨v1, m1⟩, h1, h2⟩ := he
    split at h2
    · rename_i i hi
      cases h2
      dsimp only at hi
      subst hi
      refine wpAny_UnaryOp (ev_sound a hc h1 I LR fun x1 h' tk ad1 I1 p1 r1 => ?_)
      obtain ⟨t, rfl⟩ := r1
      with_reducible refine PyProof.Rows.neg_int ?_
      exact k _ _ _ _ I1 p1 (VR.int _ _)
    · cases h2
  | .inv a, x, mem, mem', v, s, ad, Q, hc, he, I, LR, k => by
    replace hc := cE_inv hc
    obtain ⟨_, _, rfl, hc⟩ := hc
    simp only [ev, Option.bind_eq_some_iff] at he
    obtain ⟨⟨v1, m1⟩, h1, h2⟩ := he
    split at h2
    · rename_i i hi
      cases h2
      dsimp only at hi
      subst hi
      refine wpAny_UnaryOp (ev_sound a hc h1 I LR fun x1 h' tk ad1 I1 p1 r1 => ?_)
      obtain ⟨t, rfl⟩ := r1
      with_reducible refine invert_int ?_
      exact k _ _ _ _ I1 p1 (VR.int _ _)
    · cases h2
  | .cmp o a b, x, mem, mem', v, s, ad, Q, hc, he, I, LR, k => by
    replace hc := cE_cmp hc
    obtain ⟨l', op, r', pos, rfl, hc⟩ := hc
    simp only [Bool.and_eq_true, beq_iff_eq] at hc
    simp only [ev, Option.bind_eq_some_iff, Option.map_eq_some_iff] at he
    obtain ⟨⟨v1, m1⟩, h1, ⟨v2, m2⟩, h2, r, h3, h4⟩ := he
    cases h4
    refine wpAny_Compare1 (ev_sound a hc.1.2 h1 I LR fun x1 h' tk ad1 I1 p1 r1 => ev_sound b hc.2 h2 I1 (LR.mono p1) fun x2 h2' tk2 ad2 I2 p2 r2 => ?_) (behind hc.1.1)
    exact vcmp_ok hc.1.1 h3 (r1.mono p2) r2 (k _ _ _ _ I2 (p1.trans p2) rfl)
  | .chain _ _ _ _ _, x, mem, mem', v, s, ad, Q, hc, he, I, LR, k => by simp [ev] at he
  | .ors _, x, mem, mem', v, s, ad, Q, hc, he, I, LR, k => by simp [ev] at he
  | .and a b, x, mem, mem', v, s, ad, Q, hc, he, I, LR, k => by
    replace hc := cE_and hc
    obtain ⟨_, _, _, rfl, hc⟩ := hc
    simp only [Bool.and_eq_true] at hc
    simp only [ev, Option.bind_eq_some_iff] at he
    obtain ⟨⟨v1, m1⟩, h1, h2⟩ := he
    refine wpAny_And2 (ev_sound a hc.1 h1 I LR fun x1 h' tk ad1 I1 p1 r1 => ?_)
    split at h2
    · rename_i ht
      refine truth_ok ht r1 ?_
      rw [if_pos rfl]
      exact ev_sound b hc.2 h2 I1 (LR.mono p1) fun x2 h2' tk2 ad2 I2 p2 r2 => k _ _ _ _ I2 (p1.trans p2) r2
    · rename_i ht
      cases h2
      refine truth_ok ht r1 ?_
      rw [if_neg (by simp)]
      exact k _ _ _ _ I1 p1 r1
    · cases h2
  | .or a b, x, mem, mem', v, s, ad, Q, hc, he, I, LR, k => by
    replace hc := cE_or hc
    obtain ⟨_, _, _, rfl, hc⟩ := hc
    simp only [Bool.and_eq_true] at hc
    simp only [ev, Option.bind_eq_some_iff] at he
    obtain ⟨⟨v1, m1⟩, h1, h2⟩ := he
    refine wpAny_Or2 (ev_sound a hc.1 h1 I LR fun x1 h' tk ad1 I1 p1 r1 => ?_)
    split at h2
    · rename_i ht
      cases h2
      refine truth_ok ht r1 ?_
      rw [if_pos rfl]
      exact k _ _ _ _ I1 p1 r1
    · rename_i ht
      refine truth_ok ht r1 ?_
      rw [if_neg (by simp)]
      exact ev_sound b hc.2 h2 I1 (LR.mono p1) fun x2 h2' tk2 ad2 I2 p2 r2 => k _ _ _ _ I2 (p1.trans p2) r2
    · cases h2
  | .ite t a b, x, mem, mem', v, s, ad, Q, hc, he, I, LR, k => by
    replace hc := cE_ite hc
    obtain ⟨_, _, _, _, rfl, hc⟩ := hc
    simp only [Bool.and_eq_true] at hc
    simp only [ev, Option.bind_eq_some_iff] at he
    obtain ⟨⟨v1, m1⟩, h1, h2⟩ := he
    refine wpAny_IfExp (evT_sound t hc.1.1 h1 I LR fun h' tk ad1 I1 p1 => ?_)
    split at h2
    · rename_i ht
      dsimp only at ht
      rw [if_pos ht]
      exact ev_sound a hc.1.2 h2 I1 (LR.mono p1) fun x2 h2' tk2 ad2 I2 p2 r2 => k _ _ _ _ I2 (p1.trans p2) r2
    · rename_i ht
      dsimp only at ht
      rw [if_neg ht]
      exact ev_sound b hc.2 h2 I1 (LR.mono p1) fun x2 h2' tk2 ad2 I2 p2 r2 => k _ _ _ _ I2 (p1.trans p2) r2
  | .attr a f, x, mem, mem', v, s, ad, Q, hc, he, I, LR, k => by
    replace hc := cE_attr hc
    obtain ⟨y, attr, pos, rfl, hc⟩ := hc
    simp only [Bool.and_eq_true, beq_iff_eq] at hc
    simp only [ev, Option.bind_eq_some_iff] at he
    obtain ⟨⟨v1, m1⟩, h1, h2⟩ := he
    split at h2
    · rename_i d vs hf
      split at h2
      · rename_i u hu
        cases h2
        cases y <;> first | (simp [isNm] at hc; done) | skip
        refine Attribute_name (ev_sound a hc.1.2 h1 I LR fun x1 h' tk ad1 I1 p1 r1 => ?_)
        exact attr_ok W I1 hf hc.1.1 hu r1 fun y' tk' r' => k _ _ _ _ I1 p1 r'
      · cases h2
    · cases h2
  | .idx a b, x, mem, mem', v, s, ad, Q, hc, he, I, LR, k => by
    replace hc := cE_idx hc
    obtain ⟨_, _, _, rfl, hc⟩ := hc
    simp only [Bool.and_eq_true] at hc
    simp only [ev, Option.bind_eq_some_iff] at he
    obtain ⟨⟨v1, m1⟩, h1, ⟨v2, m2⟩, h2, h3⟩ := he
    split at h3
    · rename_i vs i hs hi
      dsimp only at hs hi
      subst hi
      simp only [Option.bind_eq_some_iff, Option.map_eq_some_iff] at h3
      obtain ⟨j, hj, u, hu, h4⟩ := h3
      cases h4
      refine Subscript_ (ev_sound a hc.1 h1 I LR fun x1 h' tk ad1 I1 p1 r1 => ev_sound b hc.2 h2 I1 (LR.mono p1) fun x2 h2' tk2 ad2 I2 p2 r2 => ?_)
      obtain ⟨aa, vals, rfl, rv, hl⟩ := seq_inv (s := { s with heap := h2', toks := tk2 }) I2 hs (r1.mono p2)
      obtain ⟨t, rfl⟩ := r2
      obtain ⟨y, hy, ry⟩ := rv.get hu
      exact sub_at hl hj hy (k _ _ _ _ I2 (p1.trans p2) ry) (sub_shape (cE_shape hc.2))
    · cases h3
  | .gidx g b, x, mem, mem', v, s, ad, Q, hc, he, I, LR, k => by
    replace hc := cE_gidx hc
    obtain ⟨_, _, _, _, rfl, hc⟩ := hc
    simp only [Bool.and_eq_true] at hc
    obtain ⟨g1, g2⟩ := gl_inv hc.1
    simp only [ev, Option.bind_eq_some_iff] at he
    obtain ⟨⟨v2, m2⟩, h2, h3⟩ := he
    split at h3
    · rename_i ns i hs hi
      dsimp only at hi
      subst hi
      simp only [Option.bind_eq_some_iff, Option.map_eq_some_iff] at h3
      obtain ⟨j, hj, u, hu, h4⟩ := h3
      cases h4
      obtain ⟨aa, vals, ha, ht, hi⟩ := W.gt g _ ns g1 hs
      refine Subscript_ (glob_ok HE W g2 ha I (ev_sound b hc.2 h2 I LR fun x2 h2' tk2 ad2 I2 p2 r2 => ?_))
      obtain ⟨t, rfl⟩ := r2
      obtain ⟨y, hy, ry⟩ := (VRs.ofInts (hb := hb) (ad := ad2) hi).get (i := j) (v := .int u) (by simp [hu])
      refine sub_at (.inr (IsTup.keeps ht I2.base)) hj hy (k _ _ _ _ I2 p2 ry) (sub_shape (cE_shape hc.2))
    · cases h3
  | .tup es, x, mem, mem', v, s, ad, Q, hc, he, I, LR, k => by
    replace hc := cE_tup hc
    obtain ⟨_, _, _, rfl, hc⟩ := hc
    simp only [ev, Option.bind_eq_some_iff] at he
    obtain ⟨⟨v1, m1⟩, h1, h2⟩ := he
    split at h2
    · rename_i hlen
      cases h2
      refine wpAny_Tuple ?_
      rw [star_all hc, back_all]
      refine evs_sound es hc h1 I LR fun vals h' tk ad1 I1 p1 r1 => ⟨?_, ?_⟩
      · rw [r1.length]; exact Nat.le_trans hlen (by decide)
      · have r1' := r1.mono (List.prefix_append ad1 [h'.objs.size])
        refine k _ _ _ _ (I1.alloc ⟨vals, 0, rfl, r1'⟩) (p1.trans (List.prefix_append _ _)) ⟨_, ?_, rfl⟩
        rw [← I1.len]; simp
    · cases h2
  | .list es, x, mem, mem', v, s, ad, Q, hc, he, I, LR, k => by
    replace hc := cE_list hc
    obtain ⟨_, _, rfl, hc⟩ := hc
    simp only [ev, Option.bind_eq_some_iff] at he
    obtain ⟨⟨v1, m1⟩, h1, h2⟩ := he
    split at h2
    · rename_i hlen
      cases h2
      refine wpAny_List ?_
      rw [star_all hc, back_all]
      refine evs_sound es hc h1 I LR fun vals h' tk ad1 I1 p1 r1 => ⟨?_, ?_⟩
      · rw [r1.length]; exact Nat.le_trans hlen (by decide)
      · have r1' := r1.mono (List.prefix_append ad1 [h'.objs.size])
        refine k _ _ _ _ (I1.alloc ⟨vals, 0, rfl, r1'⟩) (p1.trans (List.prefix_append _ _)) ⟨_, ?_, rfl⟩
        rw [← I1.len]; simp
    · cases h2
  | .rep a b, x, mem, mem', v, s, ad, Q, hc, he, I, LR, k => by
    replace hc := cE_rep hc
    obtain ⟨_, _, _, _, rfl, hc⟩ := hc
    simp only [Bool.and_eq_true] at hc
    simp only [ev, Option.bind_eq_some_iff] at he
    obtain ⟨⟨v1, m1⟩, h1, ⟨v2, m2⟩, h2, h3⟩ := he
    split at h3
    · rename_i i hi
      dsimp only at hi h2 h3
      subst hi
      split at h3
      · rename_i u hu
        split at h3
        · rename_i hlt
          simp only [Bool.and_eq_true, decide_eq_true_eq] at hlt
          cases h3
          refine wpAny_BinOp (wpAny_List ?_)
          rw [star_shape (r := []) (cE_shape hc.1)]
          refine Calls.spliced_cons (ev_sound a hc.1 h1 I LR fun x1 h' tk ad1 I1 p1 r1 => Calls.spliced_nil ⟨by show 1 ≤ sizeLine; decide, ?_⟩)
          have r1' := r1.mono (List.prefix_append ad1 [h'.objs.size])
          have I2 := I1.alloc (c := .list [v1]) (o := { cls := .type "list", data := .seq [x1].toArray }) ⟨[x1], 0, rfl, .cons r1' .nil⟩
          refine ev_sound b hc.2 h2 I2 (LR.mono (p1.trans (List.prefix_append _ _))) fun x2 h2' tk2 ad2 I3 p3 r3 => ?_
          refine mul_ok (s := { s with heap := h2', toks := tk2 }) I3 hu hlt.1 hlt.2 ⟨_, pre_get p3 ?_, rfl⟩ r3 fun val h'' tk'' ad'' I4 p4 r4 => k _ _ _ _ I4 ((p1.trans (List.prefix_append _ _)).trans (p3.trans p4)) r4
          rw [← I1.len]; simp
        · cases h3
      · cases h3
    · cases h3
  | .cat a b, x, mem, mem', v, s, ad, Q, hc, he, I, LR, k => by
    replace hc := cE_cat hc
    obtain ⟨_, _, _, rfl, hc⟩ := hc
    simp only [Bool.and_eq_true] at hc
    simp only [ev, Option.bind_eq_some_iff] at he
    obtain ⟨⟨v1, m1⟩, h1, ⟨v2, m2⟩, h2, h3⟩ := he
    split at h3
    · rename_i i j hi hj
      dsimp only at hi hj h2 h3
      subst hi hj
      split at h3
      · rename_i us vs hu hv
        split at h3
        · rename_i hlt
          cases h3
          refine wpAny_BinOp (ev_sound a hc.1 h1 I LR fun x1 h' tk ad1 I1 p1 r1 => ev_sound b hc.2 h2 I1 (LR.mono p1) fun x2 h2' tk2 ad2 I2 p2 r2 => ?_)
          exact cat_ok (s := { s with heap := h2', toks := tk2 }) I2 hu hv hlt (r1.mono p2) r2 fun val h'' tk'' ad'' I4 p4 r4 => k _ _ _ _ I4 ((p1.trans p2).trans p4) r4
        · cases h3
      · cases h3
    · cases h3
  | .take a j, x, mem, mem', v, s, ad, Q, hc, he, I, LR, k => by
    replace hc := cE_take hc
    obtain ⟨y, kk, kn, kp, sp, pos, rfl, hc⟩ := hc
    simp only [Bool.and_eq_true, beq_iff_eq] at hc
    obtain ⟨⟨hc1, hk⟩, hnm⟩ := hc
    subst hk
    simp only [ev, Option.bind_eq_some_iff] at he
    obtain ⟨⟨v1, m1⟩, h1, h3⟩ := he
    split at h3
    · rename_i ns hn
      dsimp only at hn
      subst hn
      split at h3
      · rename_i hlt
        cases h3
        refine wpAny_Subscript_list_slice (ev_sound a hc1 h1 I LR fun x1 h' tk ad1 I1 p1 r1 => wpAny_evalPart_none (wpAny_evalPart_some (wpAny_Constant_int ?_))) ?_
        · obtain ⟨l0, vals, rfl, hl, hi, hsz⟩ := r1
          refine ⟨l0, vals.toArray, none, some (j : Int), rfl, hl.at fun o e => I1.base _ o e, by rw [List.size_toArray]; exact Nat.le_trans hsz (by decide), .none, .int _ _, ?_⟩
          have hj := slice_ints_uptoW hi (y := (j : Int)) (by omega)
          rw [Int.toNat_natCast] at hj
          have r' := VRs.ofInts (hb := hb) (ad := ad1 ++ [h'.objs.size + 1]) hj
          have I2 := (I1.push { cls := .type "slice", data := .fields #[.none, .int (j : Int) tk, .none] })
          have e := Heap.size_push h' { cls := .type "slice", data := .fields #[.none, .int (j : Int) tk, .none] }
          have I3 := I2.alloc (c := .list ((ns.take j).map .int)) (o := { cls := .type "list", data := .seq (slicePick vals.toArray none (some (j : Int)) none) }) ⟨(slicePick vals.toArray none (some (j : Int)) none).toList, 0, by rw [Array.toArray_toList], by rw [e]; exact r'⟩
          rw [e] at I3
          refine k _ _ _ _ I3 (p1.trans (List.prefix_append _ _)) ⟨_, ?_, rfl⟩
          rw [← I1.len]; simp
        · cases y <;> first | (simp [isNm] at hnm; done) | (intro o r; rfl)
      · cases h3
    · cases h3
  | .call f es, x, mem, mem', v, s, ad, Q, hc, he, I, LR, k => by
    replace hc := cE_call hc
    obtain ⟨id, p, xs, pos, rfl, hc⟩ := hc
    simp only [Bool.and_eq_true] at hc
    obtain ⟨⟨g0, hc1⟩, hne⟩ := hc
    obtain ⟨g1, g2⟩ := gl_inv g0
    simp only [ev, Option.bind_eq_some_iff] at he
    obtain ⟨⟨v1, m1⟩, h1, h2⟩ := he
    obtain ⟨aa, ha, hf⟩ := W.fn f _ g1
    have hf' := hf
    obtain ⟨o, fd, body, c', f', q1, q2, q3, q4, q5⟩ := hf'
    refine name_call hc1 (glob_ok HE W g2 ha I (callWith_plain (o := o) (fd := fd) hne ?_))
    refine evs_sound es hc1 h1 I LR fun vals h' tk ad1 I1 p1 r1 => ⟨⟨I1.base _ _ q1, q2⟩, ?_⟩
    exact ret_call (s := { s with heap := h', toks := tk }) HO HA.call hf h2 I1 r1 fun val h'' tk'' ad'' I4 p4 r4 => k _ _ _ _ I4 (p1.trans p4) r4
  | .new es, x, mem, mem', v, s, ad, Q, hc, he, I, LR, k => by
    replace hc := cE_new hc
    obtain ⟨id, p, xs, pos, rfl, hc⟩ := hc
    simp only [Bool.and_eq_true] at hc
    obtain ⟨⟨g0, hc1⟩, hne⟩ := hc
    obtain ⟨g1, g2⟩ := gl_inv g0
    cases g1
    simp only [ev, Option.bind_eq_some_iff] at he
    obtain ⟨⟨v1, m1⟩, h1, ⟨v2, m2⟩, h2, h3⟩ := he
    split at h3
    · rename_i hn
      dsimp only at hn
      subst hn
      cases h3
      refine wpAny_Call_NameR (glob_ok HE W g2 W.cls I ?_)
      cases xs with
      | nil => cases hne
      | cons x0 xr =>
        have hsh : shape x0 = true := by
          cases es with
          | nil => exact ff hc1
          | cons e0 er => replace hc1 : cE P c e0 x0 = true ∧ cEs P c er xr = true := Bool.and_eq_true_iff.mp hc1; exact cE_shape hc1.1
        refine callWith_K (K := K) (h₀ := hb) W.kin W.keep ?_ (star_shape hsh) ?_
        · rw [star_all hc1, back_all]
          refine evs_sound es hc1 h1 I LR fun vals h' tk ad1 I1 p1 r1 => ⟨W.kin.keeps I1.base, ?_⟩
          exact new_ok (s := { s with heap := h', toks := tk }) W HO HA h2 I1 r1 fun val h'' tk'' ad'' I4 p4 r4 => k _ _ _ _ I4 (p1.trans p4) r4
        · cases es with
          | nil => exact ff hc1
          | cons e0 er =>
            replace hc1 : cE P c e0 x0 = true ∧ cEs P c er xr = true := Bool.and_eq_true_iff.mp hc1
            rw [star_all hc1.2, back_all]
            exact plain_all
    · cases h3
  | .range es, x, mem, mem', v, s, ad, Q, hc, he, I, LR, k => by
    replace hc := cE_range hc
    obtain ⟨id, p, xs, pos, rfl, hc⟩ := hc
    simp only [Bool.and_eq_true] at hc
    obtain ⟨⟨g0, hc1⟩, hne⟩ := hc
    obtain ⟨g1, g2⟩ := gl_inv g0
    cases g1
    simp only [ev, Option.bind_eq_some_iff, Option.map_eq_some_iff] at he
    obtain ⟨⟨v1, m1⟩, h1, o, h2, h3⟩ := he
    cases h3
    refine name_call hc1 (blt_ok HE W g2 W.range.1 W.range.2 I (PyProof.Rows.callWith_type plain_all ?_))
    cases xs with
    | nil => cases hne
    | cons x0 xr =>
      refine evalArgs_plain ?_
      exact evs_sound es hc1 h1 I LR fun vals h' tk ad1 I1 p1 r1 => range_ok (s := { s with heap := h', toks := tk }) I1 h2 r1 fun val h'' tk'' ad'' I4 p4 r4 => k _ _ _ _ I4 (p1.trans p4) r4
  | .len a, x, mem, mem', v, s, ad, Q, hc, he, I, LR, k => by
    replace hc := cE_len hc
    obtain ⟨id, p, y, pos, rfl, hc⟩ := hc
    simp only [Bool.and_eq_true] at hc
    obtain ⟨g0, hc1⟩ := hc
    obtain ⟨g1, g2⟩ := gl_inv g0
    cases g1
    simp only [ev, Option.bind_eq_some_iff] at he
    obtain ⟨⟨v1, m1⟩, h1, h2⟩ := he
    refine wpAny_Call_NameR (blt_ok HE W g2 W.len.1 W.len.2 I ?_)
    rw [star_shape (r := []) (cE_shape hc1)]
    refine Calls.callWith_builtin rfl (evalArgs_plain (Calls.spliced_cons (ev_sound a hc1 h1 I LR fun x1 h' tk ad1 I1 p1 r1 => Calls.spliced_nil ?_)))
    split at h2
    · rename_i ns hn
      dsimp only at hn
      subst hn
      split at h2
      · rename_i hlt
        cases h2
        obtain ⟨l0, vals, rfl, hl, hi, hsz⟩ := r1
        have e : vals.toArray.size = ns.length := by rw [List.size_toArray]; exact hi.length
        refine call_len_list (s := { s with heap := h', toks := tk }) (hl.at fun o e => I1.base _ o e) (by rw [e]; omega) ?_
        rw [e]
        exact k _ _ _ _ I1 p1 (VR.int _ _)
      · cases h2
    · rename_i i hi
      dsimp only at hi
      subst hi
      split at h2
      · rename_i vs hv
        split at h2
        · rename_i hlt
          cases h2
          obtain ⟨a0, ha, rfl⟩ := r1
          obtain ⟨o, g, vals, n0, rfl, rv⟩ := I1.at hv ha
          have e : vals.toArray.size = vs.length := by rw [List.size_toArray]; exact rv.length
          refine call_len_list (s := { s with heap := h', toks := tk }) ⟨_, g, rfl, n0, rfl⟩ (by rw [e]; omega) ?_
          rw [e]
          exact k _ _ _ _ I1 p1 (VR.int _ _)
        · cases h2
      · cases h2
    · cases h2
  | .tne a b, x, mem, mem', v, s, ad, Q, hc, he, I, LR, k => by
    replace hc := cE_tne hc
    obtain ⟨_, _, _, rfl, hc⟩ := hc
    simp only [Bool.and_eq_true] at hc
    simp only [ev, Option.bind_eq_some_iff] at he
    obtain ⟨⟨v1, m1⟩, h1, ⟨v2, m2⟩, h2, h3⟩ := he
    split at h3
    · rename_i i j hi hj
      dsimp only at hi hj h2 h3
      subst hi hj
      split at h3
      · rename_i us vs hu hv
        split at h3
        · rename_i ns ms hns hms
          cases h3
          refine wpAny_Compare1 (ev_sound a hc.1 h1 I LR fun x1 h' tk ad1 I1 p1 r1 => ev_sound b hc.2 h2 I1 (LR.mono p1) fun x2 h2' tk2 ad2 I2 p2 r2 => ?_) (behind (o := .ne) rfl)
          exact tne_ok (s := { s with heap := h2', toks := tk2 }) HA I2 hu hv hns hms (r1.mono p2) r2 (k _ _ _ _ I2 (p1.trans p2) rfl)
        · cases h3
      · cases h3
    · cases h3
termination_by structural e => e
theorem evs_sound : ∀ (es : List E) {xs : List Expr} {mem mem' : Mem} {vs : List V} {s : Shared} {ad : List Addr} {Q : List Value → Shared → Prop}, cEs P c es xs = true → evs G Γ l es mem = some (vs, mem') →
    Inv C P.attrs hb L held m ad mem s.heap → LocR hb c.loc ad l m →
    (∀ vals h' tk ad', Inv C P.attrs hb L held m ad' mem' h' → ad <+: ad' → VRs hb ad' vs vals → Q vals { s with heap := h', toks := tk }) → wpAny (model prog w) A (spliced (xs.map fun x => (false, eval x env))) Q NoE s
  | [], xs, mem, mem', vs, s, ad, Q, hc, he, I, LR, k => by
    cases xs with
    | nil =>
      simp only [evs, Option.some.injEq, Prod.mk.injEq] at he
      obtain ⟨rfl, rfl⟩ := he
      exact Calls.spliced_nil (k _ _ _ _ I (List.prefix_refl _) .nil)
    | cons a r => exact ff hc
  | e :: es, xs, mem, mem', vs, s, ad, Q, hc, he, I, LR, k => by
    cases xs with
    | nil => exact ff hc
    | cons x xs =>
      replace hc : cE P c e x = true ∧ cEs P c es xs = true := Bool.and_eq_true_iff.mp hc
      simp only [evs, Option.bind_eq_some_iff] at he
      obtain ⟨⟨v1, m1⟩, h1, ⟨v2, m2⟩, h2, h3⟩ := he
      cases h3
      exact evals_cons (ev_sound e hc.1 h1 I LR fun x1 h' tk ad1 I1 p1 r1 => evs_sound es hc.2 h2 I1 (LR.mono p1) fun x2 h2' tk2 ad2 I2 p2 r2 => k _ _ _ _ I2 (p1.trans p2) (.cons (r1.mono p2) r2))
termination_by structural es => es
theorem evT_sound : ∀ (e : E) {x : Expr} {mem mem' : Mem} {b : Bool} {s : Shared} {ad : List Addr} {Q : Bool → Shared → Prop}, cE P c e x = true → evT G Γ l e mem = some (b, mem') →
    Inv C P.attrs hb L held m ad mem s.heap → LocR hb c.loc ad l m → (∀ h' tk ad', Inv C P.attrs hb L held m ad' mem' h' → ad <+: ad' → Q b { s with heap := h', toks := tk }) → wpAny (model prog w) A (PySem.isTrue x env (eval x env)) Q NoE s
  | .cmp o a d, x, mem, mem', b, s, ad, Q, hc, he, I, LR, k => by
    replace hc := cE_cmp hc
    obtain ⟨_, _, _, _, rfl, hc⟩ := hc
    simp only [Bool.and_eq_true, beq_iff_eq] at hc
    simp only [evT, Option.bind_eq_some_iff, Option.map_eq_some_iff] at he
    obtain ⟨⟨v1, m1⟩, h1, ⟨v2, m2⟩, h2, r, h3, h4⟩ := he
    cases h4
    refine wpAny_isTrue_Compare1 (ev_sound a hc.1.2 h1 I LR fun x1 h' tk ad1 I1 p1 r1 => ev_sound d hc.2 h2 I1 (LR.mono p1) fun x2 h2' tk2 ad2 I2 p2 r2 => ?_) (behind hc.1.1)
    exact vcmp_ok hc.1.1 h3 (r1.mono p2) r2 (wpAny_truthy_bool (k _ _ _ I2 (p1.trans p2)))
  | .tne a d, x, mem, mem', b, s, ad, Q, hc, he, I, LR, k => by
    replace hc := cE_tne hc
    obtain ⟨_, _, _, rfl, hc⟩ := hc
    simp only [Bool.and_eq_true] at hc
    simp only [evT, Option.bind_eq_some_iff] at he
    obtain ⟨⟨v1, m1⟩, h1, ⟨v2, m2⟩, h2, h3⟩ := he
    split at h3
    · rename_i i j hi hj
      dsimp only at hi hj h2 h3
      subst hi hj
      split at h3
      · rename_i us vs hu hv
        split at h3
        · rename_i ns ms hns hms
          cases h3
          refine wpAny_isTrue_Compare1 (ev_sound a hc.1 h1 I LR fun x1 h' tk ad1 I1 p1 r1 => ev_sound d hc.2 h2 I1 (LR.mono p1) fun x2 h2' tk2 ad2 I2 p2 r2 => ?_) (behind (o := .ne) rfl)
          exact tne_ok (s := { s with heap := h2', toks := tk2 }) HA I2 hu hv hns hms (r1.mono p2) r2 (wpAny_truthy_bool (k _ _ _ I2 (p1.trans p2)))
        · cases h3
      · cases h3
    · cases h3
  | .chain o o' a d e, x, mem, mem', b, s, ad, Q, hc, he, I, LR, k => by
    replace hc := cE_chain hc
    obtain ⟨l', op, op', r', r'', pos, rfl, hc⟩ := hc
    simp only [Bool.and_eq_true, beq_iff_eq] at hc
    obtain ⟨⟨⟨⟨hc1, hc2⟩, hc3⟩, hc4⟩, hc5⟩ := hc
    simp only [evT, Option.bind_eq_some_iff] at he
    obtain ⟨⟨v1, m1⟩, h1, ⟨v2, m2⟩, h2, t, h3, h4⟩ := he
    refine isTrue_chain (ev_sound a hc3 h1 I LR fun x1 h' tk ad1 I1 p1 r1 => ?_) (by rw [lastMarks2 (behind hc1) (behind hc2)])
    refine testChain2 (ev_sound d hc4 h2 I1 (LR.mono p1) fun x2 h2' tk2 ad2 I2 p2 r2 => ?_)
    refine vcmp_ok hc1 h3 (r1.mono p2) r2 ?_
    cases t with
    | false =>
      simp only [Bool.false_eq_true, if_false, Option.some.injEq, Prod.mk.injEq] at h4
      obtain ⟨rfl, rfl⟩ := h4
      exact wpAny_truthy_bool (k _ _ _ I2 (p1.trans p2))
    | true =>
      simp only [if_true, Option.bind_eq_some_iff, Option.map_eq_some_iff] at h4
      obtain ⟨⟨v3, m3⟩, h5, r3, h6, h7⟩ := h4
      cases h7
      refine wpAny_truthy_bool ?_
      dsimp only
      rw [if_pos rfl]
      refine ev_sound e hc5 h5 I2 (LR.mono (p1.trans p2)) fun x3 h3' tk3 ad3 I3 p3 r3 => ?_
      exact vcmp_ok hc2 h6 (r2.mono p3) r3 (wpAny_truthy_bool (k _ _ _ I3 ((p1.trans p2).trans p3)))
  | .and a d, x, mem, mem', b, s, ad, Q, hc, he, I, LR, k => by
    replace hc := cE_and hc
    obtain ⟨_, _, _, rfl, hc⟩ := hc
    simp only [Bool.and_eq_true] at hc
    simp only [evT, Option.bind_eq_some_iff] at he
    obtain ⟨⟨v1, m1⟩, h1, h2⟩ := he
    refine wpAny_isTrue_BoolOp (wpAny_allTrue_And_cons (evT_sound a hc.1 h1 I LR fun h' tk ad1 I1 p1 => ?_))
    cases v1 with
    | true =>
      simp only [if_true] at h2
      rw [if_pos rfl]
      refine wpAny_allTrue_And_cons (evT_sound d hc.2 h2 I1 (LR.mono p1) fun h2' tk2 ad2 I2 p2 => ?_)
      cases b with
      | true => rw [if_pos rfl]; exact wpAny_allTrue_And_nil (k _ _ _ I2 (p1.trans p2))
      | false => rw [if_neg (by simp)]; exact k _ _ _ I2 (p1.trans p2)
    | false =>
      simp only [Bool.false_eq_true, if_false, Option.some.injEq, Prod.mk.injEq] at h2
      obtain ⟨rfl, rfl⟩ := h2
      rw [if_neg (by simp)]
      exact k _ _ _ I1 p1
  | .or a d, x, mem, mem', b, s, ad, Q, hc, he, I, LR, k => by
    replace hc := cE_or hc
    obtain ⟨_, _, _, rfl, hc⟩ := hc
    simp only [Bool.and_eq_true] at hc
    simp only [evT, Option.bind_eq_some_iff] at he
    obtain ⟨⟨v1, m1⟩, h1, h2⟩ := he
    refine wpAny_isTrue_BoolOp (wpAny_allTrue_Or_cons (evT_sound a hc.1 h1 I LR fun h' tk ad1 I1 p1 => ?_))
    cases v1 with
    | false =>
      simp only [Bool.false_eq_true, if_false] at h2
      rw [if_neg (by simp)]
      refine wpAny_allTrue_Or_cons (evT_sound d hc.2 h2 I1 (LR.mono p1) fun h2' tk2 ad2 I2 p2 => ?_)
      cases b with
      | false => rw [if_neg (by simp)]; exact wpAny_allTrue_Or_nil (k _ _ _ I2 (p1.trans p2))
      | true => rw [if_pos rfl]; exact k _ _ _ I2 (p1.trans p2)
    | true =>
      simp only [if_true, Option.some.injEq, Prod.mk.injEq] at h2
      obtain ⟨rfl, rfl⟩ := h2
      rw [if_pos rfl]
      exact k _ _ _ I1 p1
  | .ors es, x, mem, mem', b, s, ad, Q, hc, he, I, LR, k => by
    replace hc := cE_ors hc
    obtain ⟨_, _, rfl, hc⟩ := hc
    simp only [evT] at he
    exact wpAny_isTrue_BoolOp (evO_sound es hc he I LR k)
  | .loc y, x, mem, mem', b, s, ad, Q, hc, he, I, LR, k => by
    replace hc := cE_loc hc
    obtain ⟨id, pos, rfl, hc⟩ := hc
    simp only [beq_iff_eq] at hc
    simp only [evT] at he
    split at he
    · rename_i u hu
      simp only [Option.map_eq_some_iff] at he
      obtain ⟨t, ht, h4⟩ := he
      cases h4
      refine isTrue_val (x := .Name id pos) True.intro (wpAny_Name (loc_ok (pos := pos) HE hc hu I LR fun val r => ?_) (HE.kl id (List.mem_of_getElem? hc)).2)
      exact truth_ok ht r (k _ _ _ I (List.prefix_refl _))
    · cases he
  | .bin o a d, x, mem, mem', b, s, ad, Q, hc, he, I, LR, k => by
    replace hc := cE_bin hc
    obtain ⟨_, _, _, _, rfl, hc⟩ := hc
    simp only [Bool.and_eq_true, beq_iff_eq] at hc
    simp only [evT, Option.bind_eq_some_iff, Option.map_eq_some_iff] at he
    obtain ⟨⟨v1, m1⟩, h1, ⟨v2, m2⟩, h2, r, h3, t, ht, h4⟩ := he
    cases h4
    refine isTrue_val True.intro (wpAny_BinOp (ev_sound a hc.1.2 h1 I LR fun x1 h' tk ad1 I1 p1 r1 => ev_sound d hc.2 h2 I1 (LR.mono p1) fun x2 h2' tk2 ad2 I2 p2 r2 => ?_))
    exact vbin_ok hc.1.1 h3 (r1.mono p2) r2 fun val tk3 r3 => truth_ok ht r3 (k _ _ _ I2 (p1.trans p2))
  | .attr a f, x, mem, mem', b, s, ad, Q, hc, he, I, LR, k => by
    replace hc := cE_attr hc
    obtain ⟨y, attr, pos, rfl, hc⟩ := hc
    simp only [Bool.and_eq_true, beq_iff_eq] at hc
    simp only [evT, Option.bind_eq_some_iff] at he
    obtain ⟨⟨v1, m1⟩, h1, h2⟩ := he
    split at h2
    · rename_i d vs hf
      split at h2
      · rename_i u hu
        simp only [Option.map_eq_some_iff] at h2
        obtain ⟨t, ht, h4⟩ := h2
        cases h4
        cases y <;> first | (simp [isNm] at hc; done) | skip
        refine isTrue_val True.intro (Attribute_name (ev_sound a hc.1.2 h1 I LR fun x1 h' tk ad1 I1 p1 r1 => ?_))
        exact attr_ok W I1 hf hc.1.1 hu r1 fun y' tk' r' => truth_ok ht r' (k _ _ _ I1 p1)
      · cases h2
    · cases h2
  | .call f es, x, mem, mem', b, s, ad, Q, hc, he, I, LR, k => by
    replace hc := cE_call hc
    obtain ⟨id, p, xs, pos, rfl, hc⟩ := hc
    simp only [Bool.and_eq_true] at hc
    obtain ⟨⟨g0, hc1⟩, hne⟩ := hc
    obtain ⟨g1, g2⟩ := gl_inv g0
    simp only [evT, Option.bind_eq_some_iff, Option.map_eq_some_iff] at he
    obtain ⟨⟨v1, m1⟩, h1, ⟨v2, m2⟩, h2, t, ht, h4⟩ := he
    cases h4
    obtain ⟨aa, ha, hf⟩ := W.fn f _ g1
    have hf' := hf
    obtain ⟨o, fd, body, c', f', q1, q2, q3, q4, q5⟩ := hf'
    refine isTrue_val True.intro (name_call hc1 (glob_ok HE W g2 ha I (callWith_plain (o := o) (fd := fd) hne ?_)))
    refine evs_sound es hc1 h1 I LR fun vals h' tk ad1 I1 p1 r1 => ⟨⟨I1.base _ _ q1, q2⟩, ?_⟩
    exact ret_call (s := { s with heap := h', toks := tk }) HO HA.call hf h2 I1 r1 fun val h'' tk'' ad'' I4 p4 r4 => truth_ok ht r4 (k _ _ _ I4 (p1.trans p4))
  | .lit _, x, mem, mem', b, s, ad, Q, hc, he, I, LR, k => by simp [evT] at he
  | .tt _, x, mem, mem', b, s, ad, Q, hc, he, I, LR, k => by simp [evT] at he
  | .nul, x, mem, mem', b, s, ad, Q, hc, he, I, LR, k => by simp [evT] at he
  | .gint _, x, mem, mem', b, s, ad, Q, hc, he, I, LR, k => by simp [evT] at he
  | .neg _, x, mem, mem', b, s, ad, Q, hc, he, I, LR, k => by simp [evT] at he
  | .inv _, x, mem, mem', b, s, ad, Q, hc, he, I, LR, k => by simp [evT] at he
  | .ite _ _ _, x, mem, mem', b, s, ad, Q, hc, he, I, LR, k => by simp [evT] at he
  | .idx _ _, x, mem, mem', b, s, ad, Q, hc, he, I, LR, k => by simp [evT] at he
  | .gidx _ _, x, mem, mem', b, s, ad, Q, hc, he, I, LR, k => by simp [evT] at he
  | .tup _, x, mem, mem', b, s, ad, Q, hc, he, I, LR, k => by simp [evT] at he
  | .list _, x, mem, mem', b, s, ad, Q, hc, he, I, LR, k => by simp [evT] at he
  | .rep _ _, x, mem, mem', b, s, ad, Q, hc, he, I, LR, k => by simp [evT] at he
  | .cat _ _, x, mem, mem', b, s, ad, Q, hc, he, I, LR, k => by simp [evT] at he
  | .take _ _, x, mem, mem', b, s, ad, Q, hc, he, I, LR, k => by simp [evT] at he
  | .new _, x, mem, mem', b, s, ad, Q, hc, he, I, LR, k => by simp [evT] at he
  | .range _, x, mem, mem', b, s, ad, Q, hc, he, I, LR, k => by simp [evT] at he
  | .len _, x, mem, mem', b, s, ad, Q, hc, he, I, LR, k => by simp [evT] at he
termination_by structural e => e
theorem evO_sound : ∀ (es : List E) {xs : List Expr} {mem mem' : Mem} {b : Bool} {s : Shared} {ad : List Addr} {Q : Bool → Shared → Prop}, cEs P c es xs = true → evO G Γ l es mem = some (b, mem') →
    Inv C P.attrs hb L held m ad mem s.heap → LocR hb c.loc ad l m → (∀ h' tk ad', Inv C P.attrs hb L held m ad' mem' h' → ad <+: ad' → Q b { s with heap := h', toks := tk }) → wpAny (model prog w) A (allTrue .Or xs env) Q NoE s
  | [], xs, mem, mem', b, s, ad, Q, hc, he, I, LR, k => by
    cases xs with
    | nil =>
      simp only [evO, Option.some.injEq, Prod.mk.injEq] at he
      obtain ⟨rfl, rfl⟩ := he
      exact wpAny_allTrue_Or_nil (k _ _ _ I (List.prefix_refl _))
    | cons a r => exact ff hc
  | e :: es, xs, mem, mem', b, s, ad, Q, hc, he, I, LR, k => by
    cases xs with
    | nil => exact ff hc
    | cons x xs =>
      replace hc : cE P c e x = true ∧ cEs P c es xs = true := Bool.and_eq_true_iff.mp hc
      simp only [evO, Option.bind_eq_some_iff] at he
      obtain ⟨⟨v1, m1⟩, h1, h2⟩ := he
      refine wpAny_allTrue_Or_cons (evT_sound e hc.1 h1 I LR fun h' tk ad1 I1 p1 => ?_)
      cases v1 with
      | false =>
        simp only [Bool.false_eq_true, if_false] at h2
        rw [if_neg (by simp)]
        exact evO_sound es hc.2 h2 I1 (LR.mono p1) fun h2' tk2 ad2 I2 p2 => k _ _ _ I2 (p1.trans p2)
      | true =>
        simp only [if_true, Option.some.injEq, Prod.mk.injEq] at h2
        obtain ⟨rfl, rfl⟩ := h2
        rw [if_pos rfl]
        exact k _ _ _ I1 p1
termination_by structural es => es
end
end
end Mine
end
section
open PySem PySem.W PySem.Calls PyProof.Rows PySem.Spec
namespace Mine

noncomputable def FlR (hb : Heap) (ad : List Addr) : Fl → Flow → Prop
  | .next, fl => fl = .next
  | .ret v, fl => ∃ val, fl = .ret val ∧ VR hb ad v val

theorem storeOk {c : Sc} {env : Env} {L : Addr} (HE : EnvOk c env L) : (env.scope.kind == .class || (env.scope.kind == .module && env.locals != env.globals)) = false := by rw [HE.kind]; rfl

theorem range_small {a b c : Int} (h : rangeOk a b c = true) : Builtin.Range.small a b c = true := by
  simp only [rangeOk, Bool.and_eq_true, Bool.or_eq_true, beq_iff_eq] at h
  obtain ⟨⟨ha, hb⟩, hc⟩ := h
  have ha' : a.natAbs < 2 ^ 40 := Nat.le_of_ble_eq_true ha
  have hb' : b.natAbs < 2 ^ 40 := Nat.le_of_ble_eq_true hb
  have fit : ∀ x : Int, -(2 ^ 50) ≤ x → x ≤ 2 ^ 50 → Builtin.Range.rangeFitsLong x = true := by
    intro x h1 h2
    unfold Builtin.Range.rangeFitsLong
    simp only [Bool.and_eq_true, decide_eq_true_eq]
    omega
  have hs : 0 ≤ Builtin.Range.rangeSize a b c ∧ Builtin.Range.rangeSize a b c ≤ 2 ^ 42 := by
    unfold Builtin.Range.rangeSize
    rcases hc with (rfl | rfl) | rfl
    · rw [if_pos (by decide)]; split
      · rw [Int.ediv_one]; omega
      · omega
    · rw [if_neg (by decide)]; split
      · rw [show (-(-1) : Int) = 1 by decide, Int.ediv_one]; omega
      · omega
    · rw [if_pos (by decide)]; split
      · omega
      · omega
  unfold Builtin.Range.small
  simp only [Bool.and_eq_true, Bool.or_eq_true]
  refine ⟨⟨⟨⟨fit _ (by omega) (by omega), fit _ (by omega) (by omega)⟩, fit _ (by omega) (by omega)⟩, fit _ (by omega) (by omega)⟩, .inr ?_⟩
  split
  · exact fit _ (by omega) (by omega)
  · exact fit _ (by omega) (by omega)

section
variable {prog : Program} {w : World} {K : Frag} {C : Addr} {P : Names} {G : Glb} {fs : List Fn} {mg mb : Str → Option Value} {hb : Heap}
variable {n : Nat} {Γ : Orc} {c : Sc} {env : Env} {L : Addr} {A : Around}

/-- what a statement hands on -/
noncomputable abbrev Nxt (C : Addr) (P : Names) (hb : Heap) (L : Addr) (loc : List Str) (held : List (Addr × Obj)) (ad : List Addr) (st : St) (f : Fl) (s : Shared) (Q : Flow → Shared → Prop) : Prop :=
  ∀ h' tk ad' m' fl, Inv C P.attrs hb L held m' ad' st.2 h' → ad <+: ad' → LocR hb loc ad' st.1 m' → FlR hb ad' f fl → Q fl { s with heap := h', toks := tk }

noncomputable abbrev Snd (prog : Program) (w : World) (C : Addr) (P : Names) (hb : Heap) (c : Sc) (env : Env) (L : Addr) (A : Around) (run : St → Option (Fl × St)) (tree : Sem Flow) : Prop :=
  ∀ (l : Loc) (mem : Mem) (f : Fl) (st' : St) (held : List (Addr × Obj)) (m : Str → Option Value) (ad : List Addr) (s : Shared) (Q : Flow → Shared → Prop), run (l, mem) = some (f, st') →
    Inv C P.attrs hb L held m ad mem s.heap → LocR hb c.loc ad l m → Nxt C P hb L c.loc held ad st' f s Q → wpAny (model prog w) A tree Q NoE s

theorem whl_sound {t : E} {x : Expr} {body : List S} {xs : List Stmt} (W : Wd prog w K C P G fs mg mb hb) (HO : OSound prog w C P fs hb n Γ) (HE : EnvOk c env L) (HA : AOk n A) (hc : cE P c t x = true)
    (HB : Snd prog w C P hb c env L A (exs G Γ body) (execs xs env)) {pos : Pos} : Snd prog w C P hb c env L A (whl (fun st => evT G Γ st.1 t st.2) (exs G Γ body) whileFuel) (exec (.While x xs [] pos) env) := by
  intro l mem f st' held m ad s Q he I LR k
  refine wpAny_While (codeAny_whileLoop (fun j s' => ∃ l1 mem1 m1 ad1 h1 tk1, s' = { s with heap := h1, toks := tk1 } ∧ whl (fun st => evT G Γ st.1 t st.2) (exs G Γ body) j (l1, mem1) = some (f, st') ∧ Inv C P.attrs hb L held m1 ad1 mem1 h1 ∧ LocR hb c.loc ad1 l1 m1 ∧ ad <+: ad1) ?_ whileFuel ⟨l, mem, m, ad, s.heap, s.toks, rfl, he, I, LR, List.prefix_refl _⟩)
  rintro j s' ⟨l1, mem1, m1, ad1, h1, tk1, rfl, hw, I1, LR1, p1⟩
  cases j with
  | zero => simp [whl] at hw
  | succ j =>
    simp only [whl] at hw
    split at hw
    · cases hw
    · rename_i m2 ht
      cases hw
      refine wpAny_mono (Q := _) (evT_sound (s := { s with heap := h1, toks := tk1 }) W HO HE HA t hc ht I1 LR1 fun h2 tk2 ad2 I2 p2 => ?_) (fun _ _ x => x) (fun _ _ x => x.elim)
      rw [if_neg (by simp)]
      exact wpAny_execs_nil (k _ _ _ _ _ I2 (p1.trans p2) (LR1.mono p2) rfl)
    · rename_i m2 ht
      refine wpAny_mono (Q := _) (evT_sound (s := { s with heap := h1, toks := tk1 }) W HO HE HA t hc ht I1 LR1 fun h2 tk2 ad2 I2 p2 => ?_) (fun _ _ x => x) (fun _ _ x => x.elim)
      rw [if_pos rfl]
      split at hw
      · cases hw
      · rename_i st2 hb2
        refine wpAny_mono (Q := _) (HB l1 m2 _ _ held m1 ad2 { s with heap := h2, toks := tk2 } _ hb2 I2 (LR1.mono p2) fun h3 tk3 ad3 m3 fl I3 p3 LR3 hf => ?_) (fun _ _ x => x) (fun _ _ x => x.elim)
        cases hf
        exact ⟨j, Nat.lt_succ_self _, st2.1, st2.2, m3, ad3, h3, tk3, rfl, hw, I3, LR3, (p1.trans p2).trans p3⟩
      · rename_i v st2 hb2
        cases hw
        refine wpAny_mono (Q := _) (HB l1 m2 _ _ held m1 ad2 { s with heap := h2, toks := tk2 } _ hb2 I2 (LR1.mono p2) fun h3 tk3 ad3 m3 fl I3 p3 LR3 hf => ?_) (fun _ _ x => x) (fun _ _ x => x.elim)
        obtain ⟨val, rfl, r⟩ := hf
        exact k _ _ _ _ _ I3 ((p1.trans p2).trans p3) LR3 ⟨val, rfl, r⟩

/-- a loop over an iterator at i, its object of the make It -/
theorem for_sound {x : Str} {px : Pos} {y : Nat} {body : List S} {xs : List Stmt} (HE : EnvOk c env L)
    (hy : c.loc[y]? = some x) (HB : Snd prog w C P hb c env L A (exs G Γ body) (execs xs env))
    (get : Mem → Option (List V)) (i : Addr) (It : Nat → Obj → Prop) (ad₀ : List Addr)
    (item : ∀ (k : Nat) (v : V) (vs : List V) (o : Obj) (held : List (Addr × Obj)) (m : Str → Option Value) (ad : List Addr) (mem : Mem) (s : Shared) (Q : Option Value → Shared → Prop), ad₀ <+: ad → Inv C P.attrs hb L held m ad mem s.heap → s.heap.get? i = some o → It k o → get mem = some vs → vs[k]? = some v →
      (∀ x o' h' tk, VR hb ad v x → It (k + 1) o' → h'.get? i = some o' → (∀ b o, b ≠ i → s.heap.get? b = some o → h'.get? b = some o) → Q (some x) { s with heap := h', toks := tk }) → wpAny (model prog w) A (pyNext (.ref i)) Q NoE s)
    (done : ∀ (k : Nat) (vs : List V) (o : Obj) (held : List (Addr × Obj)) (m : Str → Option Value) (ad : List Addr) (mem : Mem) (s : Shared) (Q : Option Value → Shared → Prop), ad₀ <+: ad → Inv C P.attrs hb L held m ad mem s.heap → s.heap.get? i = some o → It k o → get mem = some vs → vs[k]? = none →
      (∀ h' tk, (∀ b o, b ≠ i → s.heap.get? b = some o → h'.get? b = some o) → Q none { s with heap := h', toks := tk }) → wpAny (model prog w) A (pyNext (.ref i)) Q NoE s)
    {l : Loc} {mem : Mem} {f : Fl} {st' : St} {held : List (Addr × Obj)} {m : Str → Option Value} {ad : List Addr} {s : Shared} {R : Result → Shared → Prop} {fuel : Nat} {o : Obj}
    (he : forS get (fun v st => (setSlot st.1 y v).bind fun l => exs G Γ body (l, st.2)) fuel 0 (l, mem) = some (f, st')) (I : Inv C P.attrs hb L held m ad mem s.heap) (LR : LocR hb c.loc ad l m) (hp : ad₀ <+: ad)
    (hi : s.heap.get? i = some o) (hit : It 0 o) (hL : i ≠ L) (hn : hb.get? i = none) (hia : i ∉ ad) (hih : ∀ p ∈ held, p.1 ≠ i)
    (k : Nxt C P hb L c.loc held ad st' f s (fun fl s' => R (.ok fl) s')) : codeAny (model prog w) A (.forLoop (.Name x px) (.ref i) xs [] env) R s := by
  refine codeAny_forLoop (fun j s' => ∃ kk l1 mem1 m1 ad1 h1 tk1 o1, s' = { s with heap := h1, toks := tk1 } ∧ forS get (fun v st => (setSlot st.1 y v).bind fun l => exs G Γ body (l, st.2)) j kk (l1, mem1) = some (f, st') ∧
    Inv C P.attrs hb L held m1 ad1 mem1 h1 ∧ LocR hb c.loc ad1 l1 m1 ∧ ad <+: ad1 ∧ h1.get? i = some o1 ∧ It kk o1 ∧ i ∉ ad1) ?_ fuel ⟨0, l, mem, m, ad, s.heap, s.toks, o, rfl, he, I, LR, List.prefix_refl _, hi, hit, hia⟩
  rintro j s' ⟨kk, l1, mem1, m1, ad1, h1, tk1, o1, rfl, hw, I1, LR1, p1, hi1, hit1, hia1⟩
  cases j with
  | zero => simp [forS] at hw
  | succ j =>
    simp only [forS] at hw
    split at hw
    · cases hw
    · rename_i vs hvs
      split at hw
      · rename_i hnone
        cases hw
        refine wpAny_mono (Q := _) (done kk vs o1 held m1 ad1 mem1 { s with heap := h1, toks := tk1 } _ (hp.trans p1) I1 hi1 hit1 hvs hnone fun h2 tk2 hk2 => ?_) (fun _ _ x => x) (fun _ _ x => x.elim)
        exact wpAny_execs_nil (k _ _ _ _ _ (I1.frame hk2 hia1 hL hn hih) p1 LR1 rfl)
      · rename_i v hv
        refine wpAny_mono (Q := _) (item kk v vs o1 held m1 ad1 mem1 { s with heap := h1, toks := tk1 } _ (hp.trans p1) I1 hi1 hit1 hvs hv fun x2 o2 h2 tk2 r2 hit2 hi2 hk2 => ?_) (fun _ _ x => x) (fun _ _ x => x.elim)
        have I2 := I1.frame hk2 hia1 hL hn hih
        have I2' := I2.hold hi2 hL hn hia1
        obtain ⟨k1, _⟩ := HE.kl x (List.mem_of_getElem? hy)
        split at hw
        · cases hw
        · rename_i st2 hst
          simp only [Option.bind_eq_some_iff] at hst
          obtain ⟨l2, hl2, hb2⟩ := hst
          refine wpAny_assign_Name (wpAny_storeName_local k1 (by rw [HE.loc]; exact I2.ns) (fun h3 hn3 hs3 => ?_) (storeOk HE))
          rw [HE.loc] at hn3 hs3
          refine wpAny_mono (Q := _) (HB l2 mem1 _ _ ((i, o2) :: held) _ ad1 { s with heap := h3, toks := tk2 + 1 } _ hb2 (I2'.store hn3 hs3) (LR1.set HE.nodup hy r2 hl2) fun h4 tk4 ad4 m4 fl I4 p4 LR4 hf => ?_) (fun _ _ x => x) (fun _ _ x => x.elim)
          cases hf
          exact ⟨j, Nat.lt_succ_self _, kk + 1, st2.1, st2.2, m4, ad4, h4, tk4, o2, rfl, hw, I4.drop, LR4, p1.trans p4, (I4.held _ (.head _)).1, hit2, (I4.held _ (.head _)).2.2.2⟩
        · rename_i v2 st2 hst
          cases hw
          simp only [Option.bind_eq_some_iff] at hst
          obtain ⟨l2, hl2, hb2⟩ := hst
          refine wpAny_assign_Name (wpAny_storeName_local k1 (by rw [HE.loc]; exact I2.ns) (fun h3 hn3 hs3 => ?_) (storeOk HE))
          rw [HE.loc] at hn3 hs3
          refine wpAny_mono (Q := _) (HB l2 mem1 _ _ ((i, o2) :: held) _ ad1 { s with heap := h3, toks := tk2 + 1 } _ hb2 (I2'.store hn3 hs3) (LR1.set HE.nodup hy r2 hl2) fun h4 tk4 ad4 m4 fl I4 p4 LR4 hf => ?_) (fun _ _ x => x) (fun _ _ x => x.elim)
          obtain ⟨val, rfl, r⟩ := hf
          exact k _ _ _ _ _ I4.drop (p1.trans p4) LR4 ⟨val, rfl, r⟩
end
end Mine
end
section
open PySem PySem.W PySem.Calls PyProof.Rows PySem.Spec
namespace Mine

section
variable {prog : Program} {w : World} {K : Frag} {C : Addr} {P : Names} {G : Glb} {fs : List Fn} {mg mb : Str → Option Value} {hb : Heap}
variable {n : Nat} {Γ : Orc} {c : Sc} {env : Env} {L : Addr} {A : Around}

theorem listAt_inv {j : Nat} {mem : Mem} {vs : List V} (h : listAt j mem = some vs) : mem[j]? = some (.list vs) := by
  unfold listAt at h
  split at h
  · rename_i vs' e; cases h; exact e
  · cases h
theorem tupAt_inv {j : Nat} {mem : Mem} {vs : List V} (h : tupAt j mem = some vs) : mem[j]? = some (.tup vs) := by
  unfold tupAt at h
  split at h
  · rename_i vs' e; cases h; exact e
  · cases h

theorem push_keep {h : Heap} (o : Obj) : ∀ b o', h.get? b = some o' → (h.push o).get? b = some o' := fun _ _ e => Heap.get?_push_of_some _ e

theorem iter_fresh {held : List (Addr × Obj)} {m : Str → Option Value} {ad : List Addr} {mem : Mem} {h : Heap} (I : Inv C P.attrs hb L held m ad mem h) :
    h.objs.size ≠ L ∧ hb.get? h.objs.size = none ∧ h.objs.size ∉ ad ∧ ∀ p ∈ held, p.1 ≠ h.objs.size :=
  ⟨Nat.ne_of_gt I.ns.lt, fresh_none I.size, fun q => Nat.lt_irrefl _ (I.lt q), fun p hp => Nat.ne_of_lt (Heap.lt_size (I.held p hp).1)⟩

theorem For_sound {e : E} {it : Expr} {x : Str} {px pos : Pos} {y : Nat} {body : List S} {xs : List Stmt} (W : Wd prog w K C P G fs mg mb hb) (HO : OSound prog w C P fs hb n Γ) (HE : EnvOk c env L) (HA : AOk n A)
    (hc : cE P c e it = true) (hy : c.loc[y]? = some x) (HB : Snd prog w C P hb c env L A (exs G Γ body) (execs xs env)) :
    Snd prog w C P hb c env L A (ex G Γ (.for y e body)) (exec (.For (.Name x px) it xs [] pos) env) := by
  intro l mem f st' held m ad s Q he I LR k
  simp only [ex, Option.bind_eq_some_iff] at he
  obtain ⟨⟨v1, m1⟩, h1, h2⟩ := he
  refine wpAny_For (ev_sound W HO HE HA e hc h1 I LR fun x1 h' tk ad1 I1 p1 r1 => ?_) (folded_shape (cE_shape hc))
  split at h2
  · rename_i i hi
    dsimp only at hi h2
    subst hi
    obtain ⟨aa, ha, rfl⟩ := r1
    split at h2
    · rename_i vs hvs
      obtain ⟨o, g, vals, n0, rfl, rv⟩ := I1.at hvs ha
      refine wpAny_pyIter_list (s := { s with heap := h', toks := tk }) ⟨_, g, rfl, n0, rfl⟩ ?_
      have I2 := I1.push { cls := .type "list_iterator", data := .fields #[.ref aa, .int 0 0] }
      obtain ⟨f1, f2, f3, f4⟩ := iter_fresh I1
      refine for_sound (s := { s with heap := h'.push { cls := .type "list_iterator", data := .fields #[.ref aa, .int 0 0] }, toks := tk }) HE hy HB (listAt i) h'.objs.size (fun k o => o.cls = .type "list_iterator" ∧ o.data = .fields #[.ref aa, .int k 0]) ad1 ?_ ?_ h2 I2 (LR.mono p1) (List.prefix_refl _)
        (Heap.get?_push_size _ rfl) ⟨rfl, rfl⟩ f1 f2 f3 f4 fun h3 tk3 ad3 m3 fl I3 p3 LR3 hf => k h3 tk3 ad3 m3 fl I3 (p1.trans p3) LR3 hf
      · intro k v vs o held m ad mem s Q hp I hi hit hg hv hQ
        obtain ⟨o2, g2, vals2, n2, rfl, rv2⟩ := I.at (listAt_inv hg) (pre_get hp ha)
        obtain ⟨y2, hy2, ry2⟩ := rv2.get hv
        refine wpAny_pyNext_list_item ⟨o, hi, hit⟩ ⟨_, g2, rfl, n2, rfl⟩ (x := y2) (by simpa using hy2) fun h4 hit4 hs4 => ?_
        obtain ⟨o4, g4, c4, d4⟩ := hit4
        exact hQ y2 o4 h4 _ ry2 ⟨c4, d4⟩ g4 fun b o hb e => (hs4.2 b hb).trans e
      · intro k vs o held m ad mem s Q hp I hi hit hg hv hQ
        obtain ⟨o2, g2, vals2, n2, rfl, rv2⟩ := I.at (listAt_inv hg) (pre_get hp ha)
        refine wpAny_pyNext_list_end HA.1 ⟨o, hi, hit⟩ ⟨_, g2, rfl, n2, rfl⟩ (by simpa using rv2.get_none hv) fun h4 hs4 => ?_
        exact hQ h4 _ fun b o hb e => hs4 b o hb e
    · rename_i vs hvs
      obtain ⟨o, g, vals, n0, rfl, rv⟩ := I1.at hvs ha
      refine wpAny_pyIter_tuple (s := { s with heap := h', toks := tk }) ⟨_, g, rfl, n0, rfl⟩ ?_
      have I2 := I1.push { cls := .type "tuple_iterator", data := .fields #[.ref aa, .int 0 0] }
      obtain ⟨f1, f2, f3, f4⟩ := iter_fresh I1
      refine for_sound (s := { s with heap := h'.push { cls := .type "tuple_iterator", data := .fields #[.ref aa, .int 0 0] }, toks := tk }) HE hy HB (tupAt i) h'.objs.size (fun k o => o.cls = .type "tuple_iterator" ∧ o.data = .fields #[.ref aa, .int k 0]) ad1 ?_ ?_ h2 I2 (LR.mono p1) (List.prefix_refl _)
        (Heap.get?_push_size _ rfl) ⟨rfl, rfl⟩ f1 f2 f3 f4 fun h3 tk3 ad3 m3 fl I3 p3 LR3 hf => k h3 tk3 ad3 m3 fl I3 (p1.trans p3) LR3 hf
      · intro k v vs o held m ad mem s Q hp I hi hit hg hv hQ
        obtain ⟨o2, g2, vals2, n2, rfl, rv2⟩ := I.at (tupAt_inv hg) (pre_get hp ha)
        obtain ⟨y2, hy2, ry2⟩ := rv2.get hv
        refine wpAny_pyNext_tuple_item ⟨o, hi, hit⟩ ⟨_, g2, rfl, n2, rfl⟩ (x := y2) (by simpa using hy2) fun h4 hit4 hs4 => ?_
        obtain ⟨o4, g4, c4, d4⟩ := hit4
        exact hQ y2 o4 h4 _ ry2 ⟨c4, d4⟩ g4 fun b o hb e => (hs4.2 b hb).trans e
      · intro k vs o held m ad mem s Q hp I hi hit hg hv hQ
        obtain ⟨o2, g2, vals2, n2, rfl, rv2⟩ := I.at (tupAt_inv hg) (pre_get hp ha)
        refine wpAny_pyNext_tuple_end HA.1 ⟨o, hi, hit⟩ ⟨_, g2, rfl, n2, rfl⟩ (by simpa using rv2.get_none hv) fun h4 hs4 => ?_
        exact hQ h4 _ fun b o hb e => hs4 b o hb e
    · rename_i pp q cc hvs
      obtain ⟨o, g, tu, tv, tw, rfl, hr⟩ := I1.at hvs ha
      refine wpAny_pyIter_range (s := { s with heap := h', toks := tk }) g (range_small hr) ?_
      have I2 := I1.push { cls := .type "range_iterator", data := .fields #[rawInt pp, rawInt (Builtin.Range.rangeSize pp q cc), rawInt cc] }
      obtain ⟨f1, f2, f3, f4⟩ := iter_fresh I1
      have hN : 0 ≤ Builtin.Range.rangeSize pp q cc := by
        have hz := range_small hr
        unfold Builtin.Range.rangeSize
        simp only [rangeOk, Bool.and_eq_true, Bool.or_eq_true, beq_iff_eq] at hr
        obtain ⟨_, hcc⟩ := hr
        rcases hcc with (rfl | rfl) | rfl
        · rw [if_pos (by decide)]; split
          · rw [Int.ediv_one]; omega
          · omega
        · rw [if_neg (by decide)]; split
          · rw [show (-(-1) : Int) = 1 by decide, Int.ediv_one]; omega
          · omega
        · rw [if_pos (by decide)]; split
          · omega
          · omega
      have hlen : (rangeItems pp q cc).length = (Builtin.Range.rangeSize pp q cc).toNat := by simp [rangeItems]
      refine for_sound (s := { s with heap := h'.push { cls := .type "range_iterator", data := .fields #[rawInt pp, rawInt (Builtin.Range.rangeSize pp q cc), rawInt cc] }, toks := tk }) HE hy HB (fun _ => some (rangeItems pp q cc)) h'.objs.size
        (fun k o => o = { cls := .type "range_iterator", data := .fields #[rawInt (pp + (k : Nat) * cc), rawInt (Builtin.Range.rangeSize pp q cc - (k : Nat)), rawInt cc] }) ad1 ?_ ?_ h2 I2 (LR.mono p1) (List.prefix_refl _)
        (Heap.get?_push_size _ rfl) ?_ f1 f2 f3 f4 fun h3 tk3 ad3 m3 fl I3 p3 LR3 hf => k h3 tk3 ad3 m3 fl I3 (p1.trans p3) LR3 hf
      · intro k v vs o held m ad mem s Q hp I hi hit hg hv hQ
        cases hg
        subst hit
        have hk : k < (Builtin.Range.rangeSize pp q cc).toNat := by rw [← hlen]; exact (List.getElem?_eq_some_iff.mp hv).1
        have hv' : v = .int (pp + (k : Nat) * cc) := by
          unfold rangeItems at hv
          rw [List.getElem?_map, List.getElem?_range hk] at hv
          simpa using hv.symm
        subst hv'
        refine wpAny_pyNext_range_item hi (by omega) fun h4 hit4 hs4 => ?_
        refine hQ _ _ h4 _ (VR.int _ _) rfl ?_ fun b o hb e => (hs4.2 b hb).trans e
        have e1 : pp + ((k + 1 : Nat) : Int) * cc = pp + (k : Int) * cc + cc := by push_cast; rw [Int.add_mul, Int.one_mul, Int.add_assoc]
        have e2 : Builtin.Range.rangeSize pp q cc - ((k + 1 : Nat) : Int) = Builtin.Range.rangeSize pp q cc - (k : Int) - 1 := by push_cast; omega
        rw [e1, e2]; exact hit4
      · intro k vs o held m ad mem s Q hp I hi hit hg hv hQ
        cases hg
        subst hit
        have hk : (Builtin.Range.rangeSize pp q cc).toNat ≤ k := by rw [← hlen]; exact List.getElem?_eq_none_iff.mp hv
        refine wpAny_pyNext_range_end HA.1 hi (by omega) fun h4 hs4 => ?_
        exact hQ h4 _ fun b o hb e => hs4 b o hb e
      · simp
    · cases h2
  · cases h2

theorem setitem_ok {s : Shared} {ad : List Addr} {mem : Mem} {held : List (Addr × Obj)} {m : Str → Option Value} {j n0 : Nat} {k : Int} {vs : List V} {v : V} {x y z : Value} {Q : Unit → Shared → Prop} (I : Inv C P.attrs hb L held m ad mem s.heap)
    (hj : mem[j]? = some (.list vs)) (hk : place k = some n0) (hn : n0 < vs.length) (R1 : VR hb ad (.ref j) x) (R2 : VR hb ad (.int k) y) (R3 : VR hb ad v z)
    (q : ∀ h' tk, Inv C P.attrs hb L held m ad (mem.set j (.list (vs.set n0 v))) h' → Q () { s with heap := h', toks := tk }) : wpAny (model prog w) A (setItem x y z) Q NoE s := by
  obtain ⟨a, ha, rfl⟩ := R1
  obtain ⟨t, rfl⟩ := R2
  obtain ⟨o, g, vals, n1, rfl, rv⟩ := I.at hj ha
  obtain ⟨h0, h1, h2⟩ := place_ok hk
  refine ki_setAt (n := n1) g h0 (by omega) (by rw [List.size_toArray, rv.length]; omega) (q _ _ ?_)
  have e := PySem.IsL.update g (·.setIfInBounds k.toNat z)
  have arr : vals.toArray.setIfInBounds k.toNat z = (vals.set n0 z).toArray := by
    rw [h2]
    apply Array.toList_inj.mp
    simp
  rw [arr] at e
  exact I.set ha (fun b o hb e => (Heap.get?_update_ne _ _ _ _ hb).trans e) e ⟨vals.set n0 z, _, rfl, rv.set R3 n0⟩

theorem append_ok {s : Shared} {ad : List Addr} {mem : Mem} {held : List (Addr × Obj)} {m : Str → Option Value} {j : Nat} {vs : List V} {v : V} {x z : Value} {Q : Value → Shared → Prop} (I : Inv C P.attrs hb L held m ad mem s.heap)
    (hj : mem[j]? = some (.list vs)) (hlen : vs.length ≤ 1000) (R1 : VR hb ad (.ref j) x) (R3 : VR hb ad v z)
    (q : ∀ h' tk, Inv C P.attrs hb L held m ad (mem.set j (.list (vs ++ [v]))) h' → Q .none { s with heap := h', toks := tk }) : wpAny (model prog w) A (call (.builtin "list.append") [x, z]) Q NoE s := by
  obtain ⟨a, ha, rfl⟩ := R1
  obtain ⟨o, g, vals, n1, rfl, rv⟩ := I.at hj ha
  refine append_at g (fun h' hs hg => q h' _ (I.set ha (fun b o hb e => (hs.2 b hb).trans e) hg ⟨vals ++ [z], n1 + 1, ?_, rv.snoc R3⟩)) (by rw [List.size_toArray, rv.length]; exact Nat.le_trans hlen (by decide))
  congr 2
  simp

theorem Snd.mono {run run' : St → Option (Fl × St)} {tree : Sem Flow} (h : Snd prog w C P hb c env L A run tree) (e : ∀ st r, run' st = some r → run st = some r) : Snd prog w C P hb c env L A run' tree :=
  fun l mem f st' held m ad s Q he I LR k => h l mem f st' held m ad s Q (e _ _ he) I LR k

variable (W : Wd prog w K C P G fs mg mb hb) (HO : OSound prog w C P fs hb n Γ) (HE : EnvOk c env L) (HA : AOk n A)
include W HO HE HA

theorem store_ok {id : Str} {y : Nat} {v : V} {val : Value} {l l' : Loc} {mem : Mem} {held : List (Addr × Obj)} {m : Str → Option Value} {ad : List Addr} {s : Shared} {Q : Unit → Shared → Prop} (hy : c.loc[y]? = some id) (e : setSlot l y v = some l')
    (I : Inv C P.attrs hb L held m ad mem s.heap) (LR : LocR hb c.loc ad l m) (r : VR hb ad v val) (k : ∀ h' tk m', Inv C P.attrs hb L held m' ad mem h' → LocR hb c.loc ad l' m' → Q () { s with heap := h', toks := tk }) :
    wpAny (model prog w) A (storeName env id val) Q NoE s := by
  obtain ⟨k1, _⟩ := HE.kl id (List.mem_of_getElem? hy)
  refine wpAny_storeName_local k1 (by rw [HE.loc]; exact I.ns) (fun h3 hn3 hs3 => ?_) (storeOk HE)
  rw [HE.loc] at hn3 hs3
  exact k h3 _ _ (I.store hn3 hs3) (LR.set HE.nodup hy r e)

mutual
theorem ex_sound : ∀ (t : S) {x : Stmt}, cS P c t x = true → Snd prog w C P hb c env L A (ex G Γ t) (exec x env)
  | .asg y e, x, hc => by
    replace hc := cS_asg hc
    obtain ⟨_, _, _, _, rfl, hc⟩ := hc
    simp only [Bool.and_eq_true, beq_iff_eq] at hc
    intro l mem f st' held m ad s Q he I LR k
    simp only [ex, Option.bind_eq_some_iff, Option.map_eq_some_iff] at he
    obtain ⟨⟨v1, m1⟩, h1, l2, h2, h3⟩ := he
    cases h3
    refine wpAny_Assign_Name (ev_sound W HO HE HA e hc.2 h1 I LR fun x1 h' tk ad1 I1 p1 r1 => ?_) (swaps_shape (cE_shape hc.2))
    exact store_ok (s := { s with heap := h', toks := tk }) W HO HE HA hc.1 h2 I1 (LR.mono p1) r1 fun h3 tk3 m3 I3 LR3 => k _ _ _ _ _ I3 p1 LR3 rfl
  | .aug y o e, x, hc => by
    replace hc := cS_aug hc
    obtain ⟨id, px, op, v, pos, rfl, hc⟩ := hc
    simp only [Bool.and_eq_true, beq_iff_eq] at hc
    intro l mem f st' held m ad s Q he I LR k
    simp only [ex] at he
    split at he
    · rename_i u hu
      simp only [Option.bind_eq_some_iff, Option.map_eq_some_iff] at he
      obtain ⟨⟨v1, m1⟩, h1, r, h2, l2, h3, h4⟩ := he
      cases h4
      refine wpAny_AugAssign_Name (loc_ok (pos := px) HE hc.1.1 hu I LR fun x0 r0 => ev_sound W HO HE HA e hc.2 h1 I LR fun x1 h' tk ad1 I1 p1 r1 => ?_)
      refine vaug_ok (s := { s with heap := h', toks := tk }) hc.1.2 h2 (r0.mono p1) r1 fun val tk2 r2 => ?_
      exact store_ok (s := { s with heap := h', toks := tk2 }) W HO HE HA hc.1.1 h3 I1 (LR.mono p1) r2 fun h3 tk3 m3 I3 LR3 => k _ _ _ _ _ I3 p1 LR3 rfl
    · cases he
  | .setat a f e, x, hc => by
    replace hc := cS_setat hc
    obtain ⟨_, _, _, _, _, rfl, hc⟩ := hc
    simp only [Bool.and_eq_true, beq_iff_eq] at hc
    intro l mem fl st' held m ad s Q he I LR k
    simp only [ex, Option.bind_eq_some_iff] at he
    obtain ⟨⟨v1, m1⟩, h1, ⟨v2, m2⟩, h2, h3⟩ := he
    refine plainObj_wpAny_Assign_Attribute (ev_sound W HO HE HA e hc.1.2 h1 I LR fun x1 h' tk ad1 I1 p1 r1 => ev_sound (s := { s with heap := h', toks := tk }) W HO HE HA a hc.1.1.2 h2 I1 (LR.mono p1) fun x2 h2' tk2 ad2 I2 p2 r2 => ?_) (swaps_shape (cE_shape hc.1.2))
    split at h3
    · rename_i d vs hf
      dsimp only at hf
      split at h3
      · rename_i hlt
        cases h3
        exact setattr_ok (s := { s with heap := h2', toks := tk2 }) W I2 hf hc.1.1.1 (.inl ⟨hlt, rfl⟩) r2 (r1.mono p2) fun h4 tk4 I4 => k _ _ _ _ _ I4 (p1.trans p2) (LR.mono (p1.trans p2)) rfl
      · split at h3
        · rename_i hge heq
          simp only [beq_iff_eq] at heq
          cases h3
          exact setattr_ok (s := { s with heap := h2', toks := tk2 }) W I2 hf hc.1.1.1 (.inr ⟨heq, rfl⟩) r2 (r1.mono p2) fun h4 tk4 I4 => k _ _ _ _ _ I4 (p1.trans p2) (LR.mono (p1.trans p2)) rfl
        · cases h3
    · cases h3
  | .setidx a i e, x, hc => by
    replace hc := cS_setidx hc
    obtain ⟨_, _, _, _, _, rfl, hc⟩ := hc
    simp only [Bool.and_eq_true] at hc
    intro l mem fl st' held m ad s Q he I LR k
    simp only [ex, Option.bind_eq_some_iff] at he
    obtain ⟨⟨v1, m1⟩, h1, ⟨v2, m2⟩, h2, ⟨v3, m3⟩, h3, h4⟩ := he
    refine wpAny_Assign_Subscript (ev_sound W HO HE HA e hc.2 h1 I LR fun x1 h' tk ad1 I1 p1 r1 => ev_sound (s := { s with heap := h', toks := tk }) W HO HE HA a hc.1.1 h2 I1 (LR.mono p1) fun x2 h2' tk2 ad2 I2 p2 r2 => ev_sound (s := { s with heap := h2', toks := tk2 }) W HO HE HA i hc.1.2 h3 I2 (LR.mono (p1.trans p2)) fun x3 h3' tk3 ad3 I3 p3 r3 => ?_) (swaps_shape (cE_shape hc.2))
    split at h4
    · rename_i j kk hj hk
      dsimp only at hj hk
      subst hj hk
      split at h4
      · rename_i vs n0 hvs hn0
        dsimp only at hvs
        split at h4
        · rename_i hlt
          cases h4
          exact setitem_ok (s := { s with heap := h3', toks := tk3 }) I3 hvs hn0 hlt (r2.mono p3) r3 (r1.mono (p2.trans p3)) fun h5 tk5 I5 => k _ _ _ _ _ I5 ((p1.trans p2).trans p3) (LR.mono ((p1.trans p2).trans p3)) rfl
        · cases h4
      · cases h4
    · cases h4
  | .augidx a i o e, x, hc => by
    replace hc := cS_augidx hc
    obtain ⟨_, _, _, _, _, _, rfl, hc⟩ := hc
    simp only [Bool.and_eq_true, beq_iff_eq] at hc
    intro l mem fl st' held m ad s Q he I LR k
    simp only [ex, Option.bind_eq_some_iff] at he
    obtain ⟨⟨v2, m2⟩, h2, ⟨v3, m3⟩, h3, h4⟩ := he
    refine wpAny_AugAssign_SubscriptAny (ev_sound W HO HE HA a hc.1.1.2 h2 I LR fun x2 h2' tk2 ad2 I2 p2 r2 => ev_sound (s := { s with heap := h2', toks := tk2 }) W HO HE HA i hc.1.2 h3 I2 (LR.mono p2) fun x3 h3' tk3 ad3 I3 p3 r3 => ?_) (aug_shape (cE_shape hc.1.2))
    split at h4
    · rename_i j kk hj hk
      dsimp only at hj hk
      subst hj hk
      split at h4
      · rename_i vs n0 hvs hn0
        dsimp only at hvs
        split at h4
        · rename_i u hu
          simp only [Option.bind_eq_some_iff] at h4
          obtain ⟨⟨v5, m5⟩, h5, h6⟩ := h4
          split at h6
          · rename_i ws hws
            simp only [Option.bind_eq_some_iff] at h6
            obtain ⟨nv, h7, h8⟩ := h6
            split at h8
            · rename_i hlt
              cases h8
              obtain ⟨aa, vals, e0, rv, hl⟩ := seq_inv (s := { s with heap := h3', toks := tk3 }) I3 (u := .ref j) (vs := vs) (by unfold seqOf; dsimp only; rw [hvs]) (r2.mono p3)
              subst e0
              obtain ⟨t, rfl⟩ := r3
              obtain ⟨y, hy, ry⟩ := rv.get hu
              refine get_at (s := { s with heap := h3', toks := tk3 }) hl hn0 hy ?_
              refine ev_sound (s := { s with heap := h3', toks := tk3 }) W HO HE HA e hc.2 h5 I3 (LR.mono (p2.trans p3)) fun x5 h5' tk5 ad5 I5 p5 r5 => ?_
              refine vaug_ok (s := { s with heap := h5', toks := tk5 }) hc.1.1.1 h7 (ry.mono p5) r5 fun val tk6 r6 => ?_
              exact setitem_ok (s := { s with heap := h5', toks := tk6 }) I5 hws hn0 hlt (r2.mono (p3.trans p5)) ((VR.int _ _).mono p5) r6 fun h7 tk7 I7 => k _ _ _ _ _ I7 ((p2.trans p3).trans p5) (LR.mono ((p2.trans p3).trans p5)) rfl
            · cases h8
          · cases h6
        · cases h4
      · cases h4
    · cases h4
  | .app a e, x, hc => by
    replace hc := cS_app hc
    obtain ⟨y, attr, ap, v, p, pos, rfl, hc⟩ := hc
    simp only [Bool.and_eq_true, beq_iff_eq] at hc
    obtain ⟨⟨⟨⟨ha, hca⟩, hce⟩, hp⟩, hbs⟩ := hc
    subst ha
    intro l mem fl st' held m ad s Q he I LR k
    simp only [ex, Option.bind_eq_some_iff] at he
    obtain ⟨⟨v2, m2⟩, h2, h3⟩ := he
    split at h3
    · rename_i j hj
      dsimp only at hj h3
      subst hj
      split at h3
      · rename_i us hus
        simp only [Option.bind_eq_some_iff] at h3
        obtain ⟨⟨v5, m5⟩, h5, h6⟩ := h3
        split at h6
        · rename_i ws hws
          dsimp only at hws
          split at h6
          · rename_i hlt
            cases h6
            refine wpAny_Expr_any ?_ (by unfold interactive; rw [HE.kind]; rfl) rfl
            refine wpAny_Call_append ?_ ?_ (by simpa using hp) ?_ (ev_sound W HO HE HA a hca h2 I LR fun x2 h2' tk2 ad2 I2 p2 r2 => ?_)
            · cases y <;> first | rfl | (simp [isBase] at hbs; done)
            · rw [star_shape (r := []) (cE_shape hce)]; rfl
            · rw [star_shape (r := []) (cE_shape hce)]; rfl
            · obtain ⟨aa, haa, rfl⟩ := r2
              obtain ⟨o, g, vals, n1, rfl, rv⟩ := I2.at hus haa
              refine ⟨aa, _, rfl, ⟨_, n1, g, rfl, rfl, rfl⟩, ?_⟩
              refine ev_sound (s := { s with heap := h2', toks := tk2 }) W HO HE HA e hce h5 I2 (LR.mono p2) fun x5 h5' tk5 ad5 I5 p5 r5 => ?_
              exact append_ok (s := { s with heap := h5', toks := tk5 }) I5 hws hlt ⟨aa, pre_get p5 haa, rfl⟩ r5 fun h7 tk7 I7 => k _ _ _ _ _ I7 (p2.trans p5) (LR.mono (p2.trans p5)) rfl
          · cases h6
        · cases h6
      · cases h3
    · cases h3
  | .expr e, x, hc => by
    replace hc := cS_expr hc
    obtain ⟨_, _, rfl, hc⟩ := hc
    intro l mem fl st' held m ad s Q he I LR k
    simp only [ex, Option.map_eq_some_iff] at he
    obtain ⟨⟨v2, m2⟩, h2, h3⟩ := he
    cases h3
    exact wpAny_Expr_any (ev_sound W HO HE HA e hc h2 I LR fun x2 h2' tk2 ad2 I2 p2 r2 => k _ _ _ _ _ I2 p2 (LR.mono p2) rfl) (by unfold interactive; rw [HE.kind]; rfl) (swaps_shape (cE_shape hc))
  | .ret e, x, hc => by
    replace hc := cS_ret hc
    obtain ⟨_, _, rfl, hc⟩ := hc
    intro l mem fl st' held m ad s Q he I LR k
    simp only [ex, Option.map_eq_some_iff] at he
    obtain ⟨⟨v2, m2⟩, h2, h3⟩ := he
    cases h3
    exact wpAny_Return_some (ev_sound W HO HE HA e hc h2 I LR fun x2 h2' tk2 ad2 I2 p2 r2 => k _ _ _ _ _ I2 p2 (LR.mono p2) ⟨_, rfl, r2⟩)
  | .ite t a b, x, hc => by
    replace hc := cS_ite hc
    obtain ⟨_, _, _, _, rfl, hc⟩ := hc
    simp only [Bool.and_eq_true] at hc
    intro l mem fl st' held m ad s Q he I LR k
    simp only [ex, Option.bind_eq_some_iff] at he
    obtain ⟨⟨v2, m2⟩, h2, h3⟩ := he
    refine wpAny_If (evT_sound W HO HE HA t hc.1.1 h2 I LR fun h2' tk2 ad2 I2 p2 => ?_)
    cases v2 with
    | true =>
      simp only [if_true] at h3
      rw [if_pos rfl]
      exact exs_sound a hc.1.2 l m2 fl st' held m ad2 { s with heap := h2', toks := tk2 } Q h3 I2 (LR.mono p2) fun h4 tk4 ad4 m4 fl4 I4 p4 LR4 hf => k _ _ _ _ _ I4 (p2.trans p4) LR4 hf
    | false =>
      simp only [Bool.false_eq_true, if_false] at h3
      rw [if_neg (by simp)]
      exact exs_sound b hc.2 l m2 fl st' held m ad2 { s with heap := h2', toks := tk2 } Q h3 I2 (LR.mono p2) fun h4 tk4 ad4 m4 fl4 I4 p4 LR4 hf => k _ _ _ _ _ I4 (p2.trans p4) LR4 hf
  | .while t a, x, hc => by
    replace hc := cS_while hc
    obtain ⟨_, _, _, rfl, hc⟩ := hc
    simp only [Bool.and_eq_true] at hc
    exact (whl_sound W HO HE HA hc.1 (exs_sound a hc.2)).mono fun st r he => by simpa only [ex] using he
  | .for y e a, x, hc => by
    replace hc := cS_for hc
    obtain ⟨_, _, _, _, _, rfl, hc⟩ := hc
    simp only [Bool.and_eq_true, beq_iff_eq] at hc
    exact For_sound W HO HE HA hc.1.2 hc.1.1 (exs_sound a hc.2)
  | .stuck, x, hc => by
    intro l mem fl st' held m ad s Q he I LR k
    simp [ex] at he
termination_by structural t => t
theorem exs_sound : ∀ (ts : List S) {xs : List Stmt}, cSs P c ts xs = true → Snd prog w C P hb c env L A (exs G Γ ts) (execs xs env)
  | [], xs, hc => by
    cases xs with
    | nil =>
      intro l mem fl st' held m ad s Q he I LR k
      simp only [exs, Option.some.injEq, Prod.mk.injEq] at he
      obtain ⟨rfl, rfl⟩ := he
      exact wpAny_execs_nil (k _ _ _ _ _ I (List.prefix_refl _) LR rfl)
    | cons a r => exact ff hc
  | t :: ts, xs, hc => by
    cases xs with
    | nil => exact ff hc
    | cons x xs =>
      replace hc := Bool.and_eq_true_iff.mp hc
      intro l mem fl st' held m ad s Q he I LR k
      simp only [exs] at he
      split at he
      · cases he
      · rename_i st2 h2
        refine wpAny_execs_cons (ex_sound t hc.1 l mem .next st2 held m ad s _ h2 I LR fun h4 tk4 ad4 m4 fl4 I4 p4 LR4 hf => ?_)
        cases hf
        exact exs_sound ts hc.2 st2.1 st2.2 fl st' held m4 ad4 { s with heap := h4, toks := tk4 } Q he I4 LR4 fun h5 tk5 ad5 m5 fl5 I5 p5 LR5 hf5 => k _ _ _ _ _ I5 (p4.trans p5) LR5 hf5
      · rename_i v st2 h2
        cases he
        refine wpAny_execs_cons (ex_sound t hc.1 l mem (.ret v) st' held m ad s _ h2 I LR fun h4 tk4 ad4 m4 fl4 I4 p4 LR4 hf => ?_)
        obtain ⟨val, rfl, r⟩ := hf
        exact k _ _ _ _ _ I4 p4 LR4 ⟨val, rfl, r⟩
termination_by structural ts => ts
end
end
end Mine
end
section
open PySem PySem.W PySem.Calls PyProof.Rows PySem.Spec
namespace Mine

theorem lookup_zip : ∀ {names : List Str} {vals : List Value}, names.Nodup → ∀ {x : Nat} {id : Str} {val : Value}, names[x]? = some id → vals[x]? = some val → (names.zip vals).reverse.lookup id = some val
  | [], _, _, x, id, val, h, _ => by simp at h
  | _ :: _, [], _, x, id, val, _, h => by simp at h
  | n :: ns, v :: vs, hd, x, id, val, h1, h2 => by
    have hd' := List.nodup_cons.mp hd
    rw [List.zip_cons_cons, List.reverse_cons, List.lookup_append]
    cases x with
    | zero =>
      simp at h1 h2
      subst h1; subst h2
      have : (ns.zip vs).reverse.lookup n = none := by
        rw [List.lookup_eq_none_iff]
        intro p hp
        have hp' := List.mem_reverse.mp hp
        have := List.of_mem_zip (a := p.1) (b := p.2) hp'
        simp only [bne_iff_ne, ne_eq, Bool.not_eq_true, beq_eq_false_iff_ne]
        intro q
        exact hd'.1 (q ▸ this.1)
      rw [this]
      simp
    | succ x =>
      simp only [List.getElem?_cons_succ] at h1 h2
      rw [lookup_zip hd'.2 h1 h2]
      rfl

section
variable {prog : Program} {w : World} {K : Frag} {C : Addr} {P : Names} {G : Glb} {fs : List Fn} {mg mb : Str → Option Value} {hb : Heap}

theorem envOk_call {P : Names} {c : Sc} {f : Fn} {fd : FuncData} {body : List Stmt} (F : FnOk P c f fd body) (L a : Addr) : EnvOk c (callEnv fd L a) L where
  loc := rfl
  glb := F.glb
  blt := F.blt
  kind := F.kind
  kl := F.kl
  kg := F.kg
  nodup := F.nodup

theorem deeper_ok {n : Nat} {A : Around} {env : Env} (h : OOk (n + 1) A) : AOk n (A.deeper env) := by
  refine ⟨h.1, ?_, ?_⟩
  · have := h.2.1
    show A.depth + 1 + 2 * n + 2 < _
    omega
  · have := h.2.2
    show A.units + 3 + 20 * n + 100 < _
    omega

theorem sem_sound (W : Wd prog w K C P G fs mg mb hb) : ∀ n, OSound prog w C P fs hb n (sem G fs n)
  | 0 => by intro f args mem v mem' h; simp [sem] at h
  | n + 1 => by
    intro f args mem v mem' h A L held m ad s R a vals hA hf I hv k
    obtain ⟨o, fd, body, c, fn, q1, q2, q3, q4, q5⟩ := hf
    simp only [sem, q4, runFn] at h
    split at h
    · rename_i hlen
      simp only [beq_iff_eq] at hlen
      have hvl : vals.length = fn.params := by rw [hv.length, hlen]
      obtain ⟨oL, es, ep, hoL, _⟩ := I.ns
      refine codeAny_call_def (body := body) (binds := (c.loc.take fn.params).zip vals) (by have := hA.2.1; omega) (I.base _ _ q1) q2 (W.nolim.keeps I.base) (q3.keeps I.base) q5.stmts (q5.bind s vals hvl) q5.cell (fun x hx => ?_) (fun h₀ hns hk => ?_) q5.co q5.gen q5.kind
      · have := List.of_mem_zip (a := x.1) (b := x.2) hx
        exact (q5.kl _ (List.mem_of_mem_take this.1)).1
      · have I₀ := I.enter (h' := h₀) hns hk hoL
        have LR : LocR hb c.loc ad (args.map some ++ List.replicate (fn.slots - fn.params) none) (fun x => ((c.loc.take fn.params).zip vals).reverse.lookup x) := by
          refine ⟨?_, fun x u hx => ?_⟩
          · rw [List.length_append, List.length_map, List.length_replicate, q5.slots, hlen]
            have := q5.pars
            omega
          · rcases Nat.lt_or_ge x args.length with hx' | hx'
            · rw [List.getElem?_append_left (by simpa using hx'), List.getElem?_map, Option.map_eq_some_iff] at hx
              obtain ⟨u', hu, e⟩ := hx
              cases e
              obtain ⟨val, hval, r⟩ := hv.get hu
              have hxl : x < c.loc.length := by rw [q5.slots]; have := q5.pars; omega
              refine ⟨c.loc[x], val, List.getElem?_eq_getElem hxl, ?_, r⟩
              refine lookup_zip (List.Nodup.sublist (List.take_sublist _ _) q5.nodup) (x := x) ?_ hval
              rw [List.getElem?_take_of_lt (by omega)]
              exact List.getElem?_eq_getElem hxl
            · rw [List.getElem?_append_right (by simpa using hx')] at hx
              have := List.mem_of_getElem? hx
              have := List.eq_of_mem_replicate this
              cases this
        have fin : ∀ (st' : St) (fl : Fl) (u : V), exs G (sem G fs n) fn.body (args.map some ++ List.replicate (fn.slots - fn.params) none, mem) = some (fl, st') → st'.2 = mem' →
            (match fl with | .ret v' => v' = v | .next => v = .nul) →
            wpAny (model prog w) (A.deeper (callEnv fd s.heap.objs.size a)) (execs body (callEnv fd s.heap.objs.size a)) (fun f s' => R (.ok (.ret (match f with | .ret v => v | _ => .none))) s')
              (fun e s' => wpAny (model prog w) (A.deeper (callEnv fd s.heap.objs.size a)) (leaving (callEnv fd s.heap.objs.size a) e) (fun _ s'' => R (.error e) s'') (fun e' s'' => R (.error e') s'') s')
              { s with heap := h₀, toks := s.toks + ((c.loc.take fn.params).zip vals).length } := by
          intro st' fl u he hm hfl
          refine wpAny_mono (exs_sound W (sem_sound W n) (envOk_call q5 _ _) (deeper_ok hA) fn.body q5.text _ _ fl st' ((L, oL) :: held) _ ad { s with heap := h₀, toks := s.toks + ((c.loc.take fn.params).zip vals).length } _ he I₀ LR fun h' tk ad' m' fl' I' p LR' hf => ?_) (fun _ _ x => x) (fun _ _ x => x.elim)
          have I2 := Inv.leave I hoL I'
          rw [hm] at I2
          cases fl with
          | next =>
            dsimp only at hfl
            subst hfl
            cases hf
            exact k .none h' tk ad' I2 p rfl
          | ret v' =>
            dsimp only at hfl
            subst hfl
            obtain ⟨val, rfl, r⟩ := hf
            exact k val h' tk ad' I2 p r
        split at h
        · rename_i v' st' he
          cases h
          exact fin st' _ .nul he rfl rfl
        · rename_i st' he
          cases h
          exact fin st' _ .nul he rfl rfl
        · cases h
    · cases h
end
end Mine
end
section
open PySem PySem.W PySem.Calls PyProof.Rows PySem.Spec
namespace Mine
/-! the functions of the text, in our own language (printed by wip/gen.py) -/
noncomputable def cHighest : Sc := ⟨["b", "width", "square"], []⟩
noncomputable def fHighest : Fn := ⟨1, 3, [
  .ite (.cmp .eq (.loc 0) (.lit 0)) [
    .ret (.neg (.lit 1))] [],
  .asg 1 (.lit 1),
  .while (.bin .shr (.loc 0) (.loc 1)) [
    .aug 1 .mul (.lit 2)],
  .asg 2 (.lit 0),
  .while (.cmp .gt (.loc 1) (.lit 1)) [
    .aug 1 .fdiv (.lit 2),
    .ite (.bin .shr (.loc 0) (.loc 1)) [
      .aug 0 .shr (.loc 1),
      .aug 2 .add (.loc 1)] []],
  .ret (.loc 2)]⟩
noncomputable def cReverseBits : Sc := ⟨["b", "size", "out", "_"], ["range"]⟩
noncomputable def fReverseBits : Fn := ⟨2, 4, [
  .asg 2 (.lit 0),
  .for 3 (.range [.loc 1]) [
    .asg 2 (.bin .bor (.bin .shl (.loc 2) (.lit 1)) (.bin .band (.loc 0) (.lit 1))),
    .aug 0 .shr (.lit 1)],
  .ret (.loc 2)]⟩
noncomputable def cLineMasks : Sc := ⟨["geo", "square", "bit", "rank", "file", "rising", "falling", "other", "right", "left"], ["range"]⟩
noncomputable def fLineMasks : Fn := ⟨2, 10, [
  .asg 2 (.bin .shl (.lit 1) (.loc 1)),
  .asg 3 (.bin .fdiv (.loc 1) (.attr (.loc 0) 0)),
  .asg 4 (.bin .mod (.loc 1) (.attr (.loc 0) 0)),
  .asg 5 (.lit 0),
  .asg 6 (.lit 0),
  .for 7 (.range [.attr (.loc 0) 1]) [
    .asg 8 (.bin .sub (.bin .add (.loc 4) (.loc 7)) (.loc 3)),
    .asg 9 (.bin .sub (.bin .add (.loc 4) (.loc 3)) (.loc 7)),
    .ite (.chain .le .lt (.lit 0) (.loc 8) (.attr (.loc 0) 0)) [
      .aug 5 .bor (.bin .shl (.lit 1) (.bin .add (.bin .mul (.loc 7) (.attr (.loc 0) 0)) (.loc 8)))] [],
    .ite (.chain .le .lt (.lit 0) (.loc 9) (.attr (.loc 0) 0)) [
      .aug 6 .bor (.bin .shl (.lit 1) (.bin .add (.bin .mul (.loc 7) (.attr (.loc 0) 0)) (.loc 9)))] []],
  .ret (.tup [.bin .bxor (.idx (.attr (.loc 0) 7) (.loc 3)) (.loc 2), .bin .bxor (.idx (.attr (.loc 0) 6) (.loc 4)) (.loc 2), .bin .bxor (.loc 5) (.loc 2), .bin .bxor (.loc 6) (.loc 2)])]⟩
noncomputable def cSubtract : Sc := ⟨["a", "b", "full"], []⟩
noncomputable def fSubtract : Fn := ⟨3, 3, [
  .ret (.bin .band (.bin .sub (.bin .add (.bin .add (.loc 0) (.loc 2)) (.lit 1)) (.loc 1)) (.loc 2))]⟩
noncomputable def cLineAttacks : Sc := ⟨["geo", "square", "mask", "occupied", "bit", "men", "upward", "turned", "downward"], ["subtract", "reverse_bits"]⟩
noncomputable def fLineAttacks : Fn := ⟨4, 9, [
  .asg 4 (.bin .shl (.lit 1) (.loc 1)),
  .asg 5 (.bin .band (.loc 3) (.loc 2)),
  .asg 6 (.call 3 [.loc 5, .loc 4, .attr (.loc 0) 3]),
  .asg 7 (.call 1 [.loc 5, .attr (.loc 0) 2]),
  .asg 8 (.call 3 [.loc 7, .bin .shl (.lit 1) (.bin .sub (.bin .sub (.attr (.loc 0) 2) (.lit 1)) (.loc 1)), .attr (.loc 0) 3]),
  .ret (.bin .band (.bin .bxor (.loc 6) (.call 1 [.loc 8, .attr (.loc 0) 2])) (.loc 2))]⟩
noncomputable def cObstruction : Sc := ⟨["geo", "square", "mask", "occupied", "bit", "below", "above", "low", "high"], ["highest", "subtract"]⟩
noncomputable def fObstruction : Fn := ⟨4, 9, [
  .asg 4 (.bin .shl (.lit 1) (.loc 1)),
  .asg 5 (.bin .band (.bin .band (.loc 2) (.bin .sub (.loc 4) (.lit 1))) (.loc 3)),
  .asg 6 (.bin .band (.bin .band (.loc 2) (.loc 3)) (.bin .bxor (.attr (.loc 0) 3) (.bin .bor (.loc 4) (.bin .sub (.loc 4) (.lit 1))))),
  .asg 7 (.bin .shl (.lit 1) (.call 0 [.bin .bor (.loc 5) (.lit 1)])),
  .asg 8 (.ite (.loc 6) (.bin .band (.loc 6) (.bin .bxor (.loc 6) (.bin .sub (.loc 6) (.lit 1)))) (.lit 0)),
  .ret (.bin .band (.call 3 [.bin .mul (.lit 2) (.loc 8), .loc 7, .attr (.loc 0) 3]) (.loc 2))]⟩
noncomputable def cHyperbolaRook : Sc := ⟨["geo", "square", "occupied", "masks"], ["line_masks", "line_attacks"]⟩
noncomputable def fHyperbolaRook : Fn := ⟨3, 4, [
  .asg 3 (.call 2 [.loc 0, .loc 1]),
  .ret (.bin .bor (.call 4 [.loc 0, .loc 1, .idx (.loc 3) (.lit 0), .loc 2]) (.call 4 [.loc 0, .loc 1, .idx (.loc 3) (.lit 1), .loc 2]))]⟩
noncomputable def cHyperbolaBishop : Sc := ⟨["geo", "square", "occupied", "masks"], ["line_masks", "line_attacks"]⟩
noncomputable def fHyperbolaBishop : Fn := ⟨3, 4, [
  .asg 3 (.call 2 [.loc 0, .loc 1]),
  .ret (.bin .bor (.call 4 [.loc 0, .loc 1, .idx (.loc 3) (.lit 2), .loc 2]) (.call 4 [.loc 0, .loc 1, .idx (.loc 3) (.lit 3), .loc 2]))]⟩
noncomputable def cHyperbolaAttacks : Sc := ⟨["geo", "kind", "square", "occupied", "out"], ["BISHOP", "hyperbola_rook", "ROOK", "hyperbola_bishop"]⟩
noncomputable def fHyperbolaAttacks : Fn := ⟨4, 5, [
  .asg 4 (.lit 0),
  .ite (.cmp .ne (.loc 1) (.gint 0)) [
    .aug 4 .bor (.call 6 [.loc 0, .loc 2, .loc 3])] [],
  .ite (.cmp .ne (.loc 1) (.gint 1)) [
    .aug 4 .bor (.call 7 [.loc 0, .loc 2, .loc 3])] [],
  .ret (.loc 4)]⟩
noncomputable def cObstructionRook : Sc := ⟨["geo", "square", "occupied", "masks"], ["line_masks", "obstruction"]⟩
noncomputable def fObstructionRook : Fn := ⟨3, 4, [
  .asg 3 (.call 2 [.loc 0, .loc 1]),
  .ret (.bin .bor (.call 5 [.loc 0, .loc 1, .idx (.loc 3) (.lit 0), .loc 2]) (.call 5 [.loc 0, .loc 1, .idx (.loc 3) (.lit 1), .loc 2]))]⟩
noncomputable def cObstructionBishop : Sc := ⟨["geo", "square", "occupied", "masks"], ["line_masks", "obstruction"]⟩
noncomputable def fObstructionBishop : Fn := ⟨3, 4, [
  .asg 3 (.call 2 [.loc 0, .loc 1]),
  .ret (.bin .bor (.call 5 [.loc 0, .loc 1, .idx (.loc 3) (.lit 2), .loc 2]) (.call 5 [.loc 0, .loc 1, .idx (.loc 3) (.lit 3), .loc 2]))]⟩
noncomputable def cIsGrowing : Sc := ⟨["d"], ["STEP_RANKS"]⟩
noncomputable def fIsGrowing : Fn := ⟨1, 1, [
  .ret (.or (.cmp .gt (.gidx 1 (.loc 0)) (.lit 0)) (.cmp .eq (.loc 0) (.lit 1)))]⟩
noncomputable def cAddMasks : Sc := ⟨["geo", "row", "column", "r", "f"], ["range"]⟩
noncomputable def fAddMasks : Fn := ⟨1, 5, [
  .asg 1 (.bin .sub (.bin .shl (.lit 1) (.attr (.loc 0) 0)) (.lit 1)),
  .asg 2 (.lit 0),
  .for 3 (.range [.attr (.loc 0) 1]) [
    .app (.attr (.loc 0) 7) (.bin .shl (.loc 1) (.bin .mul (.loc 3) (.attr (.loc 0) 0))),
    .aug 2 .bor (.bin .shl (.lit 1) (.bin .mul (.loc 3) (.attr (.loc 0) 0)))],
  .for 4 (.range [.attr (.loc 0) 0]) [
    .app (.attr (.loc 0) 6) (.bin .shl (.loc 2) (.loc 4))]]⟩
noncomputable def cInnerSquares : Sc := ⟨["geo", "d", "edge"], ["STEP_FILES", "STEP_RANKS"]⟩
noncomputable def fInnerSquares : Fn := ⟨2, 3, [
  .asg 2 (.lit 0),
  .ite (.cmp .gt (.gidx 0 (.loc 1)) (.lit 0)) [
    .aug 2 .bor (.idx (.attr (.loc 0) 6) (.bin .sub (.attr (.loc 0) 0) (.lit 1)))] [],
  .ite (.cmp .lt (.gidx 0 (.loc 1)) (.lit 0)) [
    .aug 2 .bor (.idx (.attr (.loc 0) 6) (.lit 0))] [],
  .ite (.cmp .gt (.gidx 1 (.loc 1)) (.lit 0)) [
    .aug 2 .bor (.idx (.attr (.loc 0) 7) (.bin .sub (.attr (.loc 0) 1) (.lit 1)))] [],
  .ite (.cmp .lt (.gidx 1 (.loc 1)) (.lit 0)) [
    .aug 2 .bor (.idx (.attr (.loc 0) 7) (.lit 0))] [],
  .ret (.bin .band (.attr (.loc 0) 3) (.inv (.loc 2)))]⟩
noncomputable def cAddRays : Sc := ⟨["geo", "d", "inner", "delta", "ray", "order", "square", "goal"], ["range", "inner_squares", "STEP_RANKS", "STEP_FILES", "is_growing"]⟩
noncomputable def fAddRays : Fn := ⟨1, 8, [
  .setat (.loc 0) 9 (.rep (.lit 0) (.attr (.loc 0) 2)),
  .for 1 (.range [.lit 8]) [
    .asg 2 (.call 13 [.loc 0, .loc 1]),
    .asg 3 (.bin .add (.bin .mul (.gidx 1 (.loc 1)) (.attr (.loc 0) 0)) (.gidx 0 (.loc 1))),
    .asg 4 (.rep (.lit 0) (.attr (.loc 0) 2)),
    .asg 5 (.range [.attr (.loc 0) 2]),
    .ite (.call 11 [.loc 1]) [
      .asg 5 (.range [.bin .sub (.attr (.loc 0) 2) (.lit 1), .neg (.lit 1), .neg (.lit 1)])] [],
    .for 6 (.loc 5) [
      .ite (.bin .band (.bin .shr (.loc 2) (.loc 6)) (.lit 1)) [
        .asg 7 (.bin .add (.loc 6) (.loc 3)),
        .setidx (.loc 4) (.loc 6) (.bin .bor (.idx (.loc 4) (.loc 7)) (.bin .shl (.lit 1) (.loc 7))),
        .augidx (.attr (.loc 0) 9) (.loc 6) .bor (.bin .shl (.lit 1) (.loc 7))] []],
    .app (.attr (.loc 0) 8) (.loc 4)]]⟩
noncomputable def cAddPawns : Sc := ⟨["geo", "square"], ["range"]⟩
noncomputable def fAddPawns : Fn := ⟨1, 2, [
  .for 1 (.range [.attr (.loc 0) 2]) [
    .app (.idx (.attr (.loc 0) 11) (.lit 0)) (.bin .band (.idx (.attr (.loc 0) 9) (.loc 1)) (.bin .bor (.idx (.idx (.attr (.loc 0) 8) (.lit 4)) (.loc 1)) (.idx (.idx (.attr (.loc 0) 8) (.lit 7)) (.loc 1)))),
    .app (.idx (.attr (.loc 0) 11) (.lit 1)) (.bin .band (.idx (.attr (.loc 0) 9) (.loc 1)) (.bin .bor (.idx (.idx (.attr (.loc 0) 8) (.lit 5)) (.loc 1)) (.idx (.idx (.attr (.loc 0) 8) (.lit 6)) (.loc 1))))]]⟩
noncomputable def cAddKnights : Sc := ⟨["geo", "files", "not_first", "not_last", "not_first_two", "not_last_two", "square", "b", "near", "far", "found"], ["range"]⟩
noncomputable def fAddKnights : Fn := ⟨1, 11, [
  .asg 1 (.attr (.loc 0) 0),
  .asg 2 (.bin .band (.attr (.loc 0) 3) (.inv (.idx (.attr (.loc 0) 6) (.lit 0)))),
  .asg 3 (.bin .band (.attr (.loc 0) 3) (.inv (.idx (.attr (.loc 0) 6) (.bin .sub (.loc 1) (.lit 1))))),
  .asg 4 (.bin .band (.loc 2) (.inv (.idx (.attr (.loc 0) 6) (.lit 1)))),
  .asg 5 (.bin .band (.loc 3) (.inv (.idx (.attr (.loc 0) 6) (.bin .sub (.loc 1) (.lit 2))))),
  .for 6 (.range [.attr (.loc 0) 2]) [
    .asg 7 (.bin .shl (.lit 1) (.loc 6)),
    .asg 8 (.bin .bor (.bin .band (.bin .shl (.loc 7) (.lit 1)) (.loc 2)) (.bin .band (.bin .shr (.loc 7) (.lit 1)) (.loc 3))),
    .asg 9 (.bin .bor (.bin .band (.bin .shl (.loc 7) (.lit 2)) (.loc 4)) (.bin .band (.bin .shr (.loc 7) (.lit 2)) (.loc 5))),
    .asg 10 (.bin .bor (.bin .bor (.bin .bor (.bin .shl (.loc 8) (.bin .mul (.lit 2) (.loc 1))) (.bin .shr (.loc 8) (.bin .mul (.lit 2) (.loc 1)))) (.bin .shl (.loc 9) (.loc 1))) (.bin .shr (.loc 9) (.loc 1))),
    .app (.attr (.loc 0) 10) (.bin .band (.loc 10) (.attr (.loc 0) 3))]]⟩
noncomputable def cAddCastles : Sc := ⟨["geo", "start", "index", "base", "corner", "way", "goal"], ["range"]⟩
noncomputable def fAddCastles : Fn := ⟨1, 7, [
  .setat (.loc 0) 13 (.rep (.lit 0) (.attr (.loc 0) 2)),
  .asg 1 (.bin .fdiv (.attr (.loc 0) 0) (.lit 2)),
  .for 2 (.range [.lit 4]) [
    .asg 3 (.bin .mul (.bin .mul (.bin .shr (.loc 2) (.lit 1)) (.bin .sub (.attr (.loc 0) 1) (.lit 1))) (.attr (.loc 0) 0)),
    .asg 4 (.bin .sub (.attr (.loc 0) 0) (.lit 1)),
    .asg 5 (.lit 1),
    .ite (.bin .band (.loc 2) (.lit 1)) [
      .asg 4 (.lit 0),
      .asg 5 (.neg (.lit 1))] [],
    .asg 6 (.bin .add (.loc 1) (.bin .mul (.lit 2) (.loc 5))),
    .ite (.and (.attr (.loc 0) 5) (.cmp .gt (.bin .mul (.bin .sub (.loc 4) (.loc 6)) (.loc 5)) (.lit 0))) [
      .app (.attr (.loc 0) 12) (.tup [.bin .add (.loc 3) (.loc 1), .bin .add (.loc 3) (.loc 6), .bin .add (.loc 3) (.loc 4), .bin .sub (.bin .add (.loc 3) (.loc 6)) (.loc 5)]),
      .augidx (.attr (.loc 0) 13) (.bin .add (.loc 3) (.loc 1)) .bor (.bin .shl (.lit 1) (.loc 2)),
      .augidx (.attr (.loc 0) 13) (.bin .add (.loc 3) (.loc 4)) .bor (.bin .shl (.lit 1) (.loc 2))] [
      .app (.attr (.loc 0) 12) (.nul)]]]⟩
noncomputable def cMakeGeometry : Sc := ⟨["files", "ranks", "has_double", "has_castling", "geo"], ["ChessError", "Geometry", "add_masks", "add_rays", "add_pawns", "add_knights", "add_castles"]⟩
noncomputable def fMakeGeometry : Fn := ⟨4, 5, [
  .ite (.ors [.cmp .lt (.loc 0) (.lit 2), .cmp .gt (.loc 0) (.lit 8), .cmp .lt (.loc 1) (.lit 3), .cmp .gt (.loc 1) (.lit 8)]) [
    .stuck] [],
  .asg 4 (.new [.loc 0, .loc 1, .loc 2, .loc 3]),
  .expr (.call 12 [.loc 4]),
  .expr (.call 14 [.loc 4]),
  .expr (.call 15 [.loc 4]),
  .expr (.call 16 [.loc 4]),
  .expr (.call 17 [.loc 4]),
  .ret (.loc 4)]⟩
noncomputable def cLawRay : Sc := ⟨["files", "ranks", "square", "way", "ray", "file", "rank"], []⟩
noncomputable def fLawRay : Fn := ⟨4, 7, [
  .asg 4 (.list []),
  .asg 5 (.bin .add (.bin .mod (.loc 2) (.loc 0)) (.idx (.loc 3) (.lit 0))),
  .asg 6 (.bin .add (.bin .fdiv (.loc 2) (.loc 0)) (.idx (.loc 3) (.lit 1))),
  .while (.and (.chain .le .lt (.lit 0) (.loc 5) (.loc 0)) (.chain .le .lt (.lit 0) (.loc 6) (.loc 1))) [
    .app (.loc 4) (.bin .add (.bin .mul (.loc 6) (.loc 0)) (.loc 5)),
    .aug 5 .add (.idx (.loc 3) (.lit 0)),
    .aug 6 .add (.idx (.loc 3) (.lit 1))],
  .ret (.loc 4)]⟩
noncomputable def cGeometryInit : Sc := ⟨["self", "files", "ranks", "has_double", "has_castling"], []⟩
noncomputable def fGeometryInit : Fn := ⟨5, 5, [
  .setat (.loc 0) 0 (.loc 1),
  .setat (.loc 0) 1 (.loc 2),
  .setat (.loc 0) 2 (.bin .mul (.loc 1) (.loc 2)),
  .setat (.loc 0) 3 (.bin .sub (.bin .shl (.lit 1) (.bin .mul (.loc 1) (.loc 2))) (.lit 1)),
  .setat (.loc 0) 4 (.and (.loc 3) (.cmp .ge (.loc 2) (.lit 5))),
  .setat (.loc 0) 5 (.loc 4),
  .setat (.loc 0) 6 (.list []),
  .setat (.loc 0) 7 (.list []),
  .setat (.loc 0) 8 (.list []),
  .setat (.loc 0) 9 (.list []),
  .setat (.loc 0) 10 (.list []),
  .setat (.loc 0) 11 (.list [.list [], .list []]),
  .setat (.loc 0) 12 (.list []),
  .setat (.loc 0) 13 (.list [])]⟩
noncomputable def cLaw : Sc := ⟨["script", "s", "files", "ranks", "size", "geo", "ways", "at", "square", "men", "whole", "seen", "pair", "everything", "reached", "way", "is_open", "one", "masks", "k", "rook", "bishop"], ["len", "make_geometry", "range", "_law_ray", "line_masks", "line_attacks", "obstruction", "hyperbola_attacks", "ROOK", "obstruction_rook", "BISHOP", "obstruction_bishop", "QUEEN"]⟩
noncomputable def fLaw : Fn := ⟨1, 22, [
  .asg 1 (.cat (.take (.loc 0) 8) (.rep (.lit 0) (.bin .sub (.lit 4) (.len (.loc 0))))),
  .asg 2 (.bin .add (.lit 2) (.bin .mod (.idx (.loc 1) (.lit 0)) (.lit 4))),
  .asg 3 (.bin .add (.lit 3) (.bin .mod (.idx (.loc 1) (.lit 1)) (.lit 4))),
  .asg 4 (.bin .mul (.loc 2) (.loc 3)),
  .asg 5 (.call 18 [.loc 2, .loc 3, .tt false, .tt false]),
  .asg 6 (.list [.tup [.tup [.lit 1, .lit 0], .tup [.neg (.lit 1), .lit 0]], .tup [.tup [.lit 0, .lit 1], .tup [.lit 0, .neg (.lit 1)]], .tup [.tup [.lit 1, .lit 1], .tup [.neg (.lit 1), .neg (.lit 1)]], .tup [.tup [.neg (.lit 1), .lit 1], .tup [.lit 1, .neg (.lit 1)]]]),
  .for 7 (.range [.lit 2, .bin .sub (.len (.loc 1)) (.lit 1), .lit 2]) [
    .asg 8 (.bin .mod (.idx (.loc 1) (.loc 7)) (.loc 4)),
    .asg 9 (.bin .mod (.idx (.loc 1) (.bin .add (.loc 7) (.lit 1))) (.bin .pow (.lit 2) (.loc 4))),
    .asg 10 (.list []),
    .asg 11 (.list []),
    .for 12 (.loc 6) [
      .asg 13 (.lit 0),
      .asg 14 (.lit 0),
      .for 15 (.loc 12) [
        .asg 16 (.tt true),
        .for 17 (.call 19 [.loc 2, .loc 3, .loc 8, .loc 15]) [
          .aug 13 .add (.bin .pow (.lit 2) (.loc 17)),
          .ite (.loc 16) [
            .aug 14 .add (.bin .pow (.lit 2) (.loc 17))] [],
          .ite (.cmp .eq (.bin .mod (.bin .fdiv (.loc 9) (.bin .pow (.lit 2) (.loc 17))) (.lit 2)) (.lit 1)) [
            .asg 16 (.tt false)] []]],
      .app (.loc 10) (.loc 13),
      .app (.loc 11) (.loc 14)],
    .asg 18 (.call 2 [.loc 5, .loc 8]),
    .ite (.tne (.loc 18) (.tup [.idx (.loc 10) (.lit 0), .idx (.loc 10) (.lit 1), .idx (.loc 10) (.lit 2), .idx (.loc 10) (.lit 3)])) [
      .ret (.tt false)] [],
    .for 19 (.range [.lit 4]) [
      .ite (.cmp .ne (.call 4 [.loc 5, .loc 8, .idx (.loc 18) (.loc 19), .loc 9]) (.idx (.loc 11) (.loc 19))) [
        .ret (.tt false)] [],
      .ite (.cmp .ne (.call 5 [.loc 5, .loc 8, .idx (.loc 18) (.loc 19), .loc 9]) (.idx (.loc 11) (.loc 19))) [
        .ret (.tt false)] []],
    .asg 20 (.bin .add (.idx (.loc 11) (.lit 0)) (.idx (.loc 11) (.lit 1))),
    .asg 21 (.bin .add (.idx (.loc 11) (.lit 2)) (.idx (.loc 11) (.lit 3))),
    .ite (.or (.cmp .ne (.call 8 [.loc 5, .gint 1, .loc 8, .loc 9]) (.loc 20)) (.cmp .ne (.call 9 [.loc 5, .loc 8, .loc 9]) (.loc 20))) [
      .ret (.tt false)] [],
    .ite (.or (.cmp .ne (.call 8 [.loc 5, .gint 0, .loc 8, .loc 9]) (.loc 21)) (.cmp .ne (.call 10 [.loc 5, .loc 8, .loc 9]) (.loc 21))) [
      .ret (.tt false)] [],
    .ite (.cmp .ne (.call 8 [.loc 5, .gint 2, .loc 8, .loc 9]) (.bin .add (.loc 20) (.loc 21))) [
      .ret (.tt false)] []],
  .ret (.tt true)]⟩
noncomputable def namesP : Names := ⟨["highest", "reverse_bits", "line_masks", "subtract", "line_attacks", "obstruction", "hyperbola_rook", "hyperbola_bishop", "hyperbola_attacks", "obstruction_rook", "obstruction_bishop", "is_growing", "add_masks", "inner_squares", "add_rays", "add_pawns", "add_knights", "add_castles", "make_geometry", "_law_ray"], ["files", "ranks", "size", "full", "has_double", "has_castling", "file_masks", "rank_masks", "rays", "king", "knight", "pawn", "castles", "rights_lost"], ["BISHOP", "ROOK", "QUEEN"], ["STEP_FILES", "STEP_RANKS"], "Geometry"⟩
noncomputable def glbG : Glb := ⟨[3, 4, 5], [[0, 1, 0, -1, 1, 1, -1, -1], [1, 0, -1, 0, 1, -1, -1, 1]], 20⟩
noncomputable def fns : List Fn := [fHighest, fReverseBits, fLineMasks, fSubtract, fLineAttacks, fObstruction, fHyperbolaRook, fHyperbolaBishop, fHyperbolaAttacks, fObstructionRook, fObstructionBishop, fIsGrowing, fAddMasks, fInnerSquares, fAddRays, fAddPawns, fAddKnights, fAddCastles, fMakeGeometry, fLawRay, fGeometryInit, fLaw]
end Mine
end
section
open PySem
namespace Mine
/-! the evaluator by the recursors: small steps for the kernel (printed by wip/mkfx.py) -/
noncomputable def someR {α : Type} (o : Option α) : Bool := @Option.rec α (fun _ => Bool) false (fun _ => true) o
noncomputable def getR {α : Type} (l : List α) : Nat → Option α := @List.rec α (fun _ => Nat → Option α) (fun _ => none) (fun a _ r i => @Nat.rec (fun _ => Option α) (some a) (fun n _ => r n) i) l
noncomputable def setR {α : Type} (l : List α) : Nat → α → List α := @List.rec α (fun _ => Nat → α → List α) (fun _ _ => []) (fun a t r i v => @Nat.rec (fun _ => List α) (v :: t) (fun n _ => a :: r n v) i) l
theorem getR_eq {α : Type} : ∀ (l : List α) (i : Nat), getR l i = l[i]?
  | [], i => by simp [getR]
  | a :: t, 0 => rfl
  | a :: t, i + 1 => (getR_eq t i).trans (by rw [List.getElem?_cons_succ])
theorem setR_eq {α : Type} : ∀ (l : List α) (i : Nat) (v : α), setR l i v = l.set i v
  | [], i, v => rfl
  | a :: t, 0, v => rfl
  | a :: t, i + 1, v => congrArg (a :: ·) (setR_eq t i v)
theorem someR_eq {α : Type} (o : Option α) : someR o = o.isSome := by cases o <;> rfl
theorem if_someR {α β : Type} (l : List α) (n : Nat) (a b : β) : (if someR l[n]? = true then a else b) = if n < l.length then a else b := by
  rw [someR_eq]
  by_cases h : n < l.length
  · rw [if_pos h, List.getElem?_eq_getElem h]; rfl
  · rw [if_neg h, List.getElem?_eq_none (by omega)]; rfl
noncomputable def seqOfR (m : Mem) : V → Option (List V)
  | .ref i => match getR m i with
    | some (.list vs) => some vs
    | some (.tup vs) => some vs
    | _ => none
  | _ => none
noncomputable def fieldsOfR (m : Mem) : V → Option (Nat × List V)
  | .ref i => match getR m i with
    | some (.inst d) => match getR m d with
      | some (.dict vs) => some (d, vs)
      | _ => none
    | _ => none
  | _ => none
theorem seqOfR_eq (m : Mem) (v : V) : seqOfR m v = seqOf m v := by
  unfold seqOfR
  simp only [getR_eq]
  rfl
theorem fieldsOfR_eq (m : Mem) (v : V) : fieldsOfR m v = fieldsOf m v := by
  unfold fieldsOfR
  simp only [getR_eq]
  rfl
noncomputable def listAtR (i : Nat) (m : Mem) : Option (List V) := match getR m i with
  | some (.list vs) => some vs
  | _ => none
noncomputable def tupAtR (i : Nat) (m : Mem) : Option (List V) := match getR m i with
  | some (.tup vs) => some vs
  | _ => none
theorem listAtR_eq (i : Nat) : listAtR i = listAt i := by
  funext m
  unfold listAtR
  rw [getR_eq]
  rfl
theorem tupAtR_eq (i : Nat) : tupAtR i = tupAt i := by
  funext m
  unfold tupAtR
  rw [getR_eq]
  rfl
noncomputable def setSlotR (l : Loc) (x : Nat) (v : V) : Option Loc := if someR (getR l x) then some (setR l x (some v)) else none
theorem setSlotR_eq (l : Loc) (x : Nat) (v : V) : setSlotR l x v = setSlot l x v := by
  unfold setSlotR
  rw [getR_eq, if_someR, setR_eq]
  rfl
noncomputable def forStepR (get : Mem → Option (List V)) (step : V → St → Option (Fl × St)) (r : Nat → St → Option (Fl × St)) (k : Nat) (st : St) : Option (Fl × St) := match get st.2 with
    | none => none
    | some vs => match getR vs k with
      | none => some (.next, st)
      | some v => match step v st with
        | none => none
        | some (.next, st') => r (k + 1) st'
        | some (.ret v, st') => some (.ret v, st')
noncomputable def forSR (get : Mem → Option (List V)) (step : V → St → Option (Fl × St)) (n : Nat) : Nat → St → Option (Fl × St) :=
  @Nat.rec (fun _ => Nat → St → Option (Fl × St)) (fun _ _ => none) (fun _ r => forStepR get step r) n
theorem forSR_eq (get : Mem → Option (List V)) (step : V → St → Option (Fl × St)) : ∀ n, forSR get step n = forS get step n
  | 0 => rfl
  | n + 1 => by
    show forStepR get step (forSR get step n) = _
    rw [forSR_eq get step n]
    funext k st
    unfold forStepR
    rw [forS]
    simp only [getR_eq]
    all_goals rfl
noncomputable abbrev RE : Type := (Mem → Option (V × Mem)) × (Mem → Option (Bool × Mem))
noncomputable abbrev RL : Type := (Mem → Option (List V × Mem)) × (Mem → Option (Bool × Mem))
noncomputable def m_lit (G : Glb) (Γ : Orc) (l : Loc) (i : Int) : RE :=
  (fun m => some (.int i, m),
  fun _ => none)
noncomputable def m_tt (G : Glb) (Γ : Orc) (l : Loc) (b : Bool) : RE :=
  (fun m => some (.bool b, m),
  fun _ => none)
noncomputable def m_nul (G : Glb) (Γ : Orc) (l : Loc) : RE :=
  (fun m => some (.nul, m),
  fun _ => none)
noncomputable def m_loc (G : Glb) (Γ : Orc) (l : Loc) (x : Nat) : RE :=
  (fun m => match (getR l x) with
    | some (some v) => some (v, m)
    | _ => none,
  fun m => match (getR l x) with
    | some (some v) => (truth v).map fun b => (b, m)
    | _ => none)
noncomputable def m_gint (G : Glb) (Γ : Orc) (l : Loc) (g : Nat) : RE :=
  (fun m => match (getR G.gis g) with
    | some i => some (.int i, m)
    | none => none,
  fun _ => none)
noncomputable def m_bin (G : Glb) (Γ : Orc) (l : Loc) (o : Op) (r_a : RE) (r_b : RE) : RE :=
  (fun m => (r_a.1 m).bind fun r => (r_b.1 r.2).bind fun q => (vbin o r.1 q.1).map fun v => (v, q.2),
  fun m => (r_a.1 m).bind fun r => (r_b.1 r.2).bind fun q => (vbin o r.1 q.1).bind fun v => (truth v).map fun b => (b, q.2))
noncomputable def m_neg (G : Glb) (Γ : Orc) (l : Loc) (r_a : RE) : RE :=
  (fun m => (r_a.1 m).bind fun r => match r.1 with
    | .int i => some (.int (-i), r.2)
    | _ => none,
  fun _ => none)
noncomputable def m_inv (G : Glb) (Γ : Orc) (l : Loc) (r_a : RE) : RE :=
  (fun m => (r_a.1 m).bind fun r => match r.1 with
    | .int i => some (.int (-i - 1), r.2)
    | _ => none,
  fun _ => none)
noncomputable def m_cmp (G : Glb) (Γ : Orc) (l : Loc) (c : Cm) (r_a : RE) (r_b : RE) : RE :=
  (fun m => (r_a.1 m).bind fun r => (r_b.1 r.2).bind fun q => (vcmp c r.1 q.1).map fun v => (.bool v, q.2),
  fun m => (r_a.1 m).bind fun r => (r_b.1 r.2).bind fun q => (vcmp c r.1 q.1).map fun v => (v, q.2))
noncomputable def m_chain (G : Glb) (Γ : Orc) (l : Loc) (c : Cm) (d : Cm) (r_a : RE) (r_b : RE) (r_e : RE) : RE :=
  (fun _ => none,
  fun m => (r_a.1 m).bind fun r => (r_b.1 r.2).bind fun q => (vcmp c r.1 q.1).bind fun t =>
      if t then (r_e.1 q.2).bind fun u => (vcmp d q.1 u.1).map fun v => (v, u.2) else some (false, q.2))
noncomputable def m_and (G : Glb) (Γ : Orc) (l : Loc) (r_a : RE) (r_b : RE) : RE :=
  (fun m => (r_a.1 m).bind fun r => match truth r.1 with
    | some true => r_b.1 r.2
    | some false => some r
    | none => none,
  fun m => (r_a.2 m).bind fun r => if r.1 then r_b.2 r.2 else some (false, r.2))
noncomputable def m_or (G : Glb) (Γ : Orc) (l : Loc) (r_a : RE) (r_b : RE) : RE :=
  (fun m => (r_a.1 m).bind fun r => match truth r.1 with
    | some true => some r
    | some false => r_b.1 r.2
    | none => none,
  fun m => (r_a.2 m).bind fun r => if r.1 then some (true, r.2) else r_b.2 r.2)
noncomputable def m_ors (G : Glb) (Γ : Orc) (l : Loc) (r_es : RL) : RE :=
  (fun _ => none,
  fun m => r_es.2 m)
noncomputable def m_ite (G : Glb) (Γ : Orc) (l : Loc) (r_c : RE) (r_a : RE) (r_b : RE) : RE :=
  (fun m => (r_c.2 m).bind fun r => if r.1 then r_a.1 r.2 else r_b.1 r.2,
  fun _ => none)
noncomputable def m_attr (G : Glb) (Γ : Orc) (l : Loc) (f : Nat) (r_a : RE) : RE :=
  (fun m => (r_a.1 m).bind fun r => match fieldsOfR r.2 r.1 with
    | some (_, vs) => match (getR vs f) with
      | some v => some (v, r.2)
      | none => none
    | none => none,
  fun m => (r_a.1 m).bind fun r => match fieldsOfR r.2 r.1 with
    | some (_, vs) => match (getR vs f) with
      | some v => (truth v).map fun b => (b, r.2)
      | none => none
    | none => none)
noncomputable def m_idx (G : Glb) (Γ : Orc) (l : Loc) (r_a : RE) (r_b : RE) : RE :=
  (fun m => (r_a.1 m).bind fun r => (r_b.1 r.2).bind fun q => match seqOfR q.2 r.1, q.1 with
    | some vs, .int k => (place k).bind fun j => ((getR vs j)).map fun v => (v, q.2)
    | _, _ => none,
  fun _ => none)
noncomputable def m_gidx (G : Glb) (Γ : Orc) (l : Loc) (g : Nat) (r_b : RE) : RE :=
  (fun m => (r_b.1 m).bind fun q => match (getR G.gts g), q.1 with
    | some ns, .int k => (place k).bind fun j => ((getR ns j)).map fun v => (.int v, q.2)
    | _, _ => none,
  fun _ => none)
noncomputable def m_tup (G : Glb) (Γ : Orc) (l : Loc) (r_es : RL) : RE :=
  (fun m => (r_es.1 m).bind fun r => if r.1.length ≤ 1000 then some (.ref r.2.length, r.2 ++ [.tup r.1]) else none,
  fun _ => none)
noncomputable def m_list (G : Glb) (Γ : Orc) (l : Loc) (r_es : RL) : RE :=
  (fun m => (r_es.1 m).bind fun r => if r.1.length ≤ 1000 then some (.ref r.2.length, r.2 ++ [.list r.1]) else none,
  fun _ => none)
noncomputable def m_rep (G : Glb) (Γ : Orc) (l : Loc) (r_a : RE) (r_n : RE) : RE :=
  (fun m => (r_a.1 m).bind fun r => (r_n.1 (r.2 ++ [.list [r.1]])).bind fun q => match q.1 with
    | .int k => match (getR q.2 r.2.length) with
      | some (.list [v]) => if decide (k < 1000) && decide (-1000 < k) then some (.ref q.2.length, q.2 ++ [.list (List.replicate k.toNat v)]) else none
      | _ => none
    | _ => none,
  fun _ => none)
noncomputable def m_cat (G : Glb) (Γ : Orc) (l : Loc) (r_a : RE) (r_b : RE) : RE :=
  (fun m => (r_a.1 m).bind fun r => (r_b.1 r.2).bind fun q => match r.1, q.1 with
    | .ref i, .ref j => match (getR q.2 i), (getR q.2 j) with
      | some (.list us), some (.list vs) => if us.length + vs.length ≤ 1000 then some (.ref q.2.length, q.2 ++ [.list (us ++ vs)]) else none
      | _, _ => none
    | _, _ => none,
  fun _ => none)
noncomputable def m_take (G : Glb) (Γ : Orc) (l : Loc) (n : Nat) (r_a : RE) : RE :=
  (fun m => (r_a.1 m).bind fun r => match r.1 with
    | .ext ns => if n ≤ 1000 then some (.ref r.2.length, r.2 ++ [.list ((ns.take n).map .int)]) else none
    | _ => none,
  fun _ => none)
noncomputable def m_call (G : Glb) (Γ : Orc) (l : Loc) (f : Nat) (r_es : RL) : RE :=
  (fun m => (r_es.1 m).bind fun r => Γ f r.1 r.2,
  fun m => (r_es.1 m).bind fun r => (Γ f r.1 r.2).bind fun q => (truth q.1).map fun b => (b, q.2))
noncomputable def m_new (G : Glb) (Γ : Orc) (l : Loc) (r_es : RL) : RE :=
  (fun m => (r_es.1 m).bind fun r =>
      (Γ G.gnew (.ref (r.2.length + 1) :: r.1) (r.2 ++ [.dict [], .inst r.2.length])).bind fun q => match q.1 with
      | .nul => some (.ref (r.2.length + 1), q.2)
      | _ => none,
  fun _ => none)
noncomputable def m_range (G : Glb) (Γ : Orc) (l : Loc) (r_es : RL) : RE :=
  (fun m => (r_es.1 m).bind fun r => (mkRange r.1).map fun o => (.ref r.2.length, r.2 ++ [o]),
  fun _ => none)
noncomputable def m_len (G : Glb) (Γ : Orc) (l : Loc) (r_a : RE) : RE :=
  (fun m => (r_a.1 m).bind fun r => match r.1 with
    | .ext ns => if ns.length ≤ 1000 then some (.int ns.length, r.2) else none
    | .ref i => match (getR r.2 i) with
      | some (.list vs) => if vs.length ≤ 1000 then some (.int vs.length, r.2) else none
      | _ => none
    | _ => none,
  fun _ => none)
noncomputable def m_tne (G : Glb) (Γ : Orc) (l : Loc) (r_a : RE) (r_b : RE) : RE :=
  (fun m => (r_a.1 m).bind fun r => (r_b.1 r.2).bind fun q => match r.1, q.1 with
    | .ref i, .ref j => match (getR q.2 i), (getR q.2 j) with
      | some (.tup us), some (.tup vs) => match ints? us, ints? vs with
        | some ns, some ms => some (.bool (!decide (ns = ms)), q.2)
        | _, _ => none
      | _, _ => none
    | _, _ => none,
  fun m => (r_a.1 m).bind fun r => (r_b.1 r.2).bind fun q => match r.1, q.1 with
    | .ref i, .ref j => match (getR q.2 i), (getR q.2 j) with
      | some (.tup us), some (.tup vs) => match ints? us, ints? vs with
        | some ns, some ms => some (!decide (ns = ms), q.2)
        | _, _ => none
      | _, _ => none
    | _, _ => none)
noncomputable def m_nil : RL := (fun m => some ([], m), fun m => some (false, m))
noncomputable def m_cons (r_e : RE) (r_es : RL) : RL :=
  (fun m => (r_e.1 m).bind fun r => (r_es.1 r.2).bind fun q => some (r.1 :: q.1, q.2),
  fun m => (r_e.2 m).bind fun r => if r.1 then some (true, r.2) else r_es.2 r.2)
noncomputable def evR (G : Glb) (Γ : Orc) (l : Loc) (e : E) : RE := @E.rec (fun _ => RE) (fun _ => RL)
  (fun i => m_lit G Γ l i)
  (fun b => m_tt G Γ l b)
  (m_nul G Γ l)
  (fun x => m_loc G Γ l x)
  (fun g => m_gint G Γ l g)
  (fun o a b i_a i_b => m_bin G Γ l o i_a i_b)
  (fun a i_a => m_neg G Γ l i_a)
  (fun a i_a => m_inv G Γ l i_a)
  (fun c a b i_a i_b => m_cmp G Γ l c i_a i_b)
  (fun c d a b e i_a i_b i_e => m_chain G Γ l c d i_a i_b i_e)
  (fun a b i_a i_b => m_and G Γ l i_a i_b)
  (fun a b i_a i_b => m_or G Γ l i_a i_b)
  (fun es i_es => m_ors G Γ l i_es)
  (fun c a b i_c i_a i_b => m_ite G Γ l i_c i_a i_b)
  (fun a f i_a => m_attr G Γ l f i_a)
  (fun a b i_a i_b => m_idx G Γ l i_a i_b)
  (fun g b i_b => m_gidx G Γ l g i_b)
  (fun es i_es => m_tup G Γ l i_es)
  (fun es i_es => m_list G Γ l i_es)
  (fun a n i_a i_n => m_rep G Γ l i_a i_n)
  (fun a b i_a i_b => m_cat G Γ l i_a i_b)
  (fun a n i_a => m_take G Γ l n i_a)
  (fun f es i_es => m_call G Γ l f i_es)
  (fun es i_es => m_new G Γ l i_es)
  (fun es i_es => m_range G Γ l i_es)
  (fun a i_a => m_len G Γ l i_a)
  (fun a b i_a i_b => m_tne G Γ l i_a i_b)
  m_nil (fun _ _ i_e i_es => m_cons i_e i_es) e
noncomputable def evsR (G : Glb) (Γ : Orc) (l : Loc) (e : List E) : RL := @E.rec_1 (fun _ => RE) (fun _ => RL)
  (fun i => m_lit G Γ l i)
  (fun b => m_tt G Γ l b)
  (m_nul G Γ l)
  (fun x => m_loc G Γ l x)
  (fun g => m_gint G Γ l g)
  (fun o a b i_a i_b => m_bin G Γ l o i_a i_b)
  (fun a i_a => m_neg G Γ l i_a)
  (fun a i_a => m_inv G Γ l i_a)
  (fun c a b i_a i_b => m_cmp G Γ l c i_a i_b)
  (fun c d a b e i_a i_b i_e => m_chain G Γ l c d i_a i_b i_e)
  (fun a b i_a i_b => m_and G Γ l i_a i_b)
  (fun a b i_a i_b => m_or G Γ l i_a i_b)
  (fun es i_es => m_ors G Γ l i_es)
  (fun c a b i_c i_a i_b => m_ite G Γ l i_c i_a i_b)
  (fun a f i_a => m_attr G Γ l f i_a)
  (fun a b i_a i_b => m_idx G Γ l i_a i_b)
  (fun g b i_b => m_gidx G Γ l g i_b)
  (fun es i_es => m_tup G Γ l i_es)
  (fun es i_es => m_list G Γ l i_es)
  (fun a n i_a i_n => m_rep G Γ l i_a i_n)
  (fun a b i_a i_b => m_cat G Γ l i_a i_b)
  (fun a n i_a => m_take G Γ l n i_a)
  (fun f es i_es => m_call G Γ l f i_es)
  (fun es i_es => m_new G Γ l i_es)
  (fun es i_es => m_range G Γ l i_es)
  (fun a i_a => m_len G Γ l i_a)
  (fun a b i_a i_b => m_tne G Γ l i_a i_b)
  m_nil (fun _ _ i_e i_es => m_cons i_e i_es) e
theorem evR_eq (G : Glb) (Γ : Orc) (l : Loc) (e : E) : evR G Γ l e = (ev G Γ l e, evT G Γ l e) := by
  refine E.rec (motive_1 := fun e => evR G Γ l e = (ev G Γ l e, evT G Γ l e)) (motive_2 := fun es => evsR G Γ l es = (evs G Γ l es, evO G Γ l es)) ?_ ?_ ?_ ?_ ?_ ?_ ?_ ?_ ?_ ?_ ?_ ?_ ?_ ?_ ?_ ?_ ?_ ?_ ?_ ?_ ?_ ?_ ?_ ?_ ?_ ?_ ?_ ?_ ?_ e
  · intro i
    show m_lit G Γ l i = _
    rfl
  · intro b
    show m_tt G Γ l b = _
    rfl
  · rfl
  · intro x
    show m_loc G Γ l x = _
    unfold m_loc; simp only [getR_eq, seqOfR_eq, fieldsOfR_eq]; rfl
  · intro g
    show m_gint G Γ l g = _
    unfold m_gint; simp only [getR_eq, seqOfR_eq, fieldsOfR_eq]; rfl
  · intro o a b i_a i_b
    show m_bin G Γ l o (evR G Γ l a) (evR G Γ l b) = _
    rw [i_a, i_b]; rfl
  · intro a i_a
    show m_neg G Γ l (evR G Γ l a) = _
    rw [i_a]; rfl
  · intro a i_a
    show m_inv G Γ l (evR G Γ l a) = _
    rw [i_a]; rfl
  · intro c a b i_a i_b
    show m_cmp G Γ l c (evR G Γ l a) (evR G Γ l b) = _
    rw [i_a, i_b]; rfl
  · intro c d a b e i_a i_b i_e
    show m_chain G Γ l c d (evR G Γ l a) (evR G Γ l b) (evR G Γ l e) = _
    rw [i_a, i_b, i_e]; rfl
  · intro a b i_a i_b
    show m_and G Γ l (evR G Γ l a) (evR G Γ l b) = _
    rw [i_a, i_b]; rfl
  · intro a b i_a i_b
    show m_or G Γ l (evR G Γ l a) (evR G Γ l b) = _
    rw [i_a, i_b]; rfl
  · intro es i_es
    show m_ors G Γ l (evsR G Γ l es) = _
    rw [i_es]; rfl
  · intro c a b i_c i_a i_b
    show m_ite G Γ l (evR G Γ l c) (evR G Γ l a) (evR G Γ l b) = _
    rw [i_c, i_a, i_b]; rfl
  · intro a f i_a
    show m_attr G Γ l f (evR G Γ l a) = _
    rw [i_a]; unfold m_attr; simp only [getR_eq, seqOfR_eq, fieldsOfR_eq]; rfl
  · intro a b i_a i_b
    show m_idx G Γ l (evR G Γ l a) (evR G Γ l b) = _
    rw [i_a, i_b]; unfold m_idx; simp only [getR_eq, seqOfR_eq, fieldsOfR_eq]; rfl
  · intro g b i_b
    show m_gidx G Γ l g (evR G Γ l b) = _
    rw [i_b]; unfold m_gidx; simp only [getR_eq, seqOfR_eq, fieldsOfR_eq]; rfl
  · intro es i_es
    show m_tup G Γ l (evsR G Γ l es) = _
    rw [i_es]; rfl
  · intro es i_es
    show m_list G Γ l (evsR G Γ l es) = _
    rw [i_es]; rfl
  · intro a n i_a i_n
    show m_rep G Γ l (evR G Γ l a) (evR G Γ l n) = _
    rw [i_a, i_n]; unfold m_rep; simp only [getR_eq, seqOfR_eq, fieldsOfR_eq]; rfl
  · intro a b i_a i_b
    show m_cat G Γ l (evR G Γ l a) (evR G Γ l b) = _
    rw [i_a, i_b]; unfold m_cat; simp only [getR_eq, seqOfR_eq, fieldsOfR_eq]; rfl
  · intro a n i_a
    show m_take G Γ l n (evR G Γ l a) = _
    rw [i_a]; rfl
  · intro f es i_es
    show m_call G Γ l f (evsR G Γ l es) = _
    rw [i_es]; rfl
  · intro es i_es
    show m_new G Γ l (evsR G Γ l es) = _
    rw [i_es]; rfl
  · intro es i_es
    show m_range G Γ l (evsR G Γ l es) = _
    rw [i_es]; rfl
  · intro a i_a
    show m_len G Γ l (evR G Γ l a) = _
    rw [i_a]; unfold m_len; simp only [getR_eq, seqOfR_eq, fieldsOfR_eq]; rfl
  · intro a b i_a i_b
    show m_tne G Γ l (evR G Γ l a) (evR G Γ l b) = _
    rw [i_a, i_b]; unfold m_tne; simp only [getR_eq, seqOfR_eq, fieldsOfR_eq]; rfl
  · rfl
  · intro e es i_e i_es
    show m_cons (evR G Γ l e) (evsR G Γ l es) = _
    rw [i_e, i_es]; rfl

/-! statements -/
noncomputable abbrev RS : Type := St → Option (Fl × St)
noncomputable def n_asg (G : Glb) (Γ : Orc) (x : Nat) (e : E) : RS := fun st => ((evR G Γ st.1 e).1 st.2).bind fun r => (setSlotR st.1 x r.1).map fun l => (.next, (l, r.2))
noncomputable def n_aug (G : Glb) (Γ : Orc) (x : Nat) (o : Op) (e : E) : RS := fun st => match (getR st.1 x) with
    | some (some u) => ((evR G Γ st.1 e).1 st.2).bind fun r => (vbin o u r.1).bind fun v => (setSlotR st.1 x v).map fun l => (.next, (l, r.2))
    | _ => none
noncomputable def n_setat (G : Glb) (Γ : Orc) (a : E) (f : Nat) (e : E) : RS := fun st => ((evR G Γ st.1 e).1 st.2).bind fun r => ((evR G Γ st.1 a).1 r.2).bind fun q => match fieldsOfR q.2 q.1 with
    | some (d, vs) => if someR (getR vs f) then some (.next, (st.1, setR q.2 d (.dict (setR vs f r.1)))) else
        if f == vs.length then some (.next, (st.1, setR q.2 d (.dict (vs ++ [r.1])))) else none
    | none => none
noncomputable def n_setidx (G : Glb) (Γ : Orc) (a : E) (i : E) (e : E) : RS := fun st => ((evR G Γ st.1 e).1 st.2).bind fun r => ((evR G Γ st.1 a).1 r.2).bind fun q => ((evR G Γ st.1 i).1 q.2).bind fun p => match q.1, p.1 with
    | .ref j, .int k => match (getR p.2 j), place k with
      | some (.list vs), some n => if someR (getR vs n) then some (.next, (st.1, setR p.2 j (.list (setR vs n r.1)))) else none
      | _, _ => none
    | _, _ => none
noncomputable def n_augidx (G : Glb) (Γ : Orc) (a : E) (i : E) (o : Op) (e : E) : RS := fun st => ((evR G Γ st.1 a).1 st.2).bind fun q => ((evR G Γ st.1 i).1 q.2).bind fun p => match q.1, p.1 with
    | .ref j, .int k => match (getR p.2 j), place k with
      | some (.list vs), some n => match (getR vs n) with
        | some u => ((evR G Γ st.1 e).1 p.2).bind fun r => match (getR r.2 j) with
          | some (.list ws) => (vbin o u r.1).bind fun v => if someR (getR ws n) then some (.next, (st.1, setR r.2 j (.list (setR ws n v)))) else none
          | _ => none
        | none => none
      | _, _ => none
    | _, _ => none
noncomputable def n_app (G : Glb) (Γ : Orc) (a : E) (e : E) : RS := fun st => ((evR G Γ st.1 a).1 st.2).bind fun q => match q.1 with
    | .ref j => match (getR q.2 j) with
      | some (.list _) => ((evR G Γ st.1 e).1 q.2).bind fun r => match (getR r.2 j) with
        | some (.list vs) => if vs.length ≤ 1000 then some (.next, (st.1, setR r.2 j (.list (vs ++ [r.1])))) else none
        | _ => none
      | _ => none
    | _ => none
noncomputable def n_expr (G : Glb) (Γ : Orc) (e : E) : RS := fun st => ((evR G Γ st.1 e).1 st.2).map fun r => (.next, (st.1, r.2))
noncomputable def n_ret (G : Glb) (Γ : Orc) (e : E) : RS := fun st => ((evR G Γ st.1 e).1 st.2).map fun r => (.ret r.1, (st.1, r.2))
noncomputable def n_ite (G : Glb) (Γ : Orc) (c : E) (r_t : RS) (r_f : RS) : RS := fun st => ((evR G Γ st.1 c).2 st.2).bind fun r => if r.1 then r_t (st.1, r.2) else r_f (st.1, r.2)
noncomputable def n_while (G : Glb) (Γ : Orc) (c : E) (r_b : RS) : RS := fun st => whl (fun st => (evR G Γ st.1 c).2 st.2) (r_b) whileFuel st
noncomputable def n_for (G : Glb) (Γ : Orc) (x : Nat) (it : E) (r_b : RS) : RS := fun st => ((evR G Γ st.1 it).1 st.2).bind fun r => match r.1 with
    | .ref i => match (getR r.2 i) with
      | some (.list vs) => forSR (listAtR i) (fun v st => (setSlotR st.1 x v).bind fun l => r_b (l, st.2)) (vs.length + 1) 0 (st.1, r.2)
      | some (.tup vs) => forSR (tupAtR i) (fun v st => (setSlotR st.1 x v).bind fun l => r_b (l, st.2)) (vs.length + 1) 0 (st.1, r.2)
      | some (.range p q c) => forSR (fun _ => some (rangeItems p q c)) (fun v st => (setSlotR st.1 x v).bind fun l => r_b (l, st.2)) ((Builtin.Range.rangeSize p q c).toNat + 1) 0 (st.1, r.2)
      | _ => none
    | _ => none
noncomputable def n_stuck (G : Glb) (Γ : Orc) : RS := fun _ => none
noncomputable def n_nil : RS := fun st => some (.next, st)
noncomputable def n_cons (r_s r_ss : RS) : RS := fun st => match r_s st with
    | none => none
    | some (.next, st') => r_ss st'
    | some (.ret v, st') => some (.ret v, st')
noncomputable def exR (G : Glb) (Γ : Orc) (t : S) : RS := @S.rec (fun _ => RS) (fun _ => RS)
  (fun x e => n_asg G Γ x e)
  (fun x o e => n_aug G Γ x o e)
  (fun a f e => n_setat G Γ a f e)
  (fun a i e => n_setidx G Γ a i e)
  (fun a i o e => n_augidx G Γ a i o e)
  (fun a e => n_app G Γ a e)
  (fun e => n_expr G Γ e)
  (fun e => n_ret G Γ e)
  (fun c t f i_t i_f => n_ite G Γ c i_t i_f)
  (fun c b i_b => n_while G Γ c i_b)
  (fun x it b i_b => n_for G Γ x it i_b)
  (n_stuck G Γ)
  n_nil (fun _ _ i_s i_ss => n_cons i_s i_ss) t
noncomputable def exsR (G : Glb) (Γ : Orc) (t : List S) : RS := @S.rec_1 (fun _ => RS) (fun _ => RS)
  (fun x e => n_asg G Γ x e)
  (fun x o e => n_aug G Γ x o e)
  (fun a f e => n_setat G Γ a f e)
  (fun a i e => n_setidx G Γ a i e)
  (fun a i o e => n_augidx G Γ a i o e)
  (fun a e => n_app G Γ a e)
  (fun e => n_expr G Γ e)
  (fun e => n_ret G Γ e)
  (fun c t f i_t i_f => n_ite G Γ c i_t i_f)
  (fun c b i_b => n_while G Γ c i_b)
  (fun x it b i_b => n_for G Γ x it i_b)
  (n_stuck G Γ)
  n_nil (fun _ _ i_s i_ss => n_cons i_s i_ss) t
theorem exsR_eq (G : Glb) (Γ : Orc) (t : List S) : exsR G Γ t = exs G Γ t := by
  refine S.rec_1 (motive_1 := fun t => exR G Γ t = ex G Γ t) (motive_2 := fun t => exsR G Γ t = exs G Γ t) ?_ ?_ ?_ ?_ ?_ ?_ ?_ ?_ ?_ ?_ ?_ ?_ ?_ ?_ t
  · intro x e
    show n_asg G Γ x e = _
    unfold n_asg
    simp only [evR_eq, getR_eq, setR_eq, if_someR, seqOfR_eq, fieldsOfR_eq, setSlotR_eq, forSR_eq, listAtR_eq, tupAtR_eq]
    rfl
  · intro x o e
    show n_aug G Γ x o e = _
    unfold n_aug
    simp only [evR_eq, getR_eq, setR_eq, if_someR, seqOfR_eq, fieldsOfR_eq, setSlotR_eq, forSR_eq, listAtR_eq, tupAtR_eq]
    rfl
  · intro a f e
    show n_setat G Γ a f e = _
    unfold n_setat
    simp only [evR_eq, getR_eq, setR_eq, if_someR, seqOfR_eq, fieldsOfR_eq, setSlotR_eq, forSR_eq, listAtR_eq, tupAtR_eq]
    rfl
  · intro a i e
    show n_setidx G Γ a i e = _
    unfold n_setidx
    simp only [evR_eq, getR_eq, setR_eq, if_someR, seqOfR_eq, fieldsOfR_eq, setSlotR_eq, forSR_eq, listAtR_eq, tupAtR_eq]
    rfl
  · intro a i o e
    show n_augidx G Γ a i o e = _
    unfold n_augidx
    simp only [evR_eq, getR_eq, setR_eq, if_someR, seqOfR_eq, fieldsOfR_eq, setSlotR_eq, forSR_eq, listAtR_eq, tupAtR_eq]
    rfl
  · intro a e
    show n_app G Γ a e = _
    unfold n_app
    simp only [evR_eq, getR_eq, setR_eq, if_someR, seqOfR_eq, fieldsOfR_eq, setSlotR_eq, forSR_eq, listAtR_eq, tupAtR_eq]
    rfl
  · intro e
    show n_expr G Γ e = _
    unfold n_expr
    simp only [evR_eq, getR_eq, setR_eq, if_someR, seqOfR_eq, fieldsOfR_eq, setSlotR_eq, forSR_eq, listAtR_eq, tupAtR_eq]
    rfl
  · intro e
    show n_ret G Γ e = _
    unfold n_ret
    simp only [evR_eq, getR_eq, setR_eq, if_someR, seqOfR_eq, fieldsOfR_eq, setSlotR_eq, forSR_eq, listAtR_eq, tupAtR_eq]
    rfl
  · intro c t f i_t i_f
    show n_ite G Γ c (exsR G Γ t) (exsR G Γ f) = _
    unfold n_ite
    simp only [evR_eq, i_t, i_f, getR_eq, setR_eq, if_someR, seqOfR_eq, fieldsOfR_eq, setSlotR_eq, forSR_eq, listAtR_eq, tupAtR_eq]
    rfl
  · intro c b i_b
    show n_while G Γ c (exsR G Γ b) = _
    unfold n_while
    simp only [evR_eq, i_b, getR_eq, setR_eq, if_someR, seqOfR_eq, fieldsOfR_eq, setSlotR_eq, forSR_eq, listAtR_eq, tupAtR_eq]
    rfl
  · intro x it b i_b
    show n_for G Γ x it (exsR G Γ b) = _
    unfold n_for
    simp only [evR_eq, i_b, getR_eq, setR_eq, if_someR, seqOfR_eq, fieldsOfR_eq, setSlotR_eq, forSR_eq, listAtR_eq, tupAtR_eq]
    rfl
  · rfl
  · rfl
  · intro s ss i_s i_ss
    show n_cons (exR G Γ s) (exsR G Γ ss) = _
    rw [i_s, i_ss]; rfl
noncomputable def runFnR (G : Glb) (Γ : Orc) (f : Fn) (args : List V) (m : Mem) : Option (V × Mem) :=
  if args.length == f.params then
    match exsR G Γ f.body (args.map some ++ List.replicate (f.slots - f.params) none, m) with
    | some (.ret v, st) => some (v, st.2)
    | some (.next, st) => some (.nul, st.2)
    | none => none
  else none
theorem runFnR_eq (G : Glb) (Γ : Orc) (f : Fn) : runFnR G Γ f = runFn G Γ f := by
  funext args m
  unfold runFnR
  rw [exsR_eq]
  rfl
noncomputable def semStep (G : Glb) (fs : List Fn) (r : Orc) : Orc := fun k args m => match fs[k]? with
    | some f => runFnR G r f args m
    | none => none
noncomputable def semR (G : Glb) (fs : List Fn) (n : Nat) : Orc := @Nat.rec (fun _ => Orc) (fun _ _ _ => none) (fun _ r => semStep G fs r) n
theorem semR_eq (G : Glb) (fs : List Fn) : ∀ n, semR G fs n = sem G fs n
  | 0 => rfl
  | n + 1 => by
    show semStep G fs (semR G fs n) = _
    rw [semR_eq G fs n]
    funext k args m
    unfold semStep
    simp only [sem, runFnR_eq]
    all_goals rfl
end Mine
end
section
open PySem PySem.W PySem.Calls PyProof.Rows PySem.Spec
namespace Mine

theorem lookup_zip_some {names : List Str} : ∀ {vals : List Value}, vals.length = names.length → ∀ x ∈ names, ((names.zip vals).lookup x).isNone = false := by
  induction names with
  | nil => intro vals _ x hx; cases hx
  | cons n ns ih =>
    intro vals hl x hx
    cases vals with
    | nil => cases hl
    | cons v vs =>
      rw [List.zip_cons_cons, List.lookup_cons]
      cases e : x == n with
      | true => rfl
      | false =>
        refine ih (by simpa using hl) x ?_
        rcases List.mem_cons.mp hx with rfl | h
        · rw [beq_self_eq_true] at e; cases e
        · exact h

theorem fm_congr {α β : Type} {f g : α → Option β} : ∀ {l : List α}, (∀ x ∈ l, f x = g x) → l.filterMap f = l.filterMap g
  | [], _ => rfl
  | a :: l, h => by
    rw [List.filterMap_cons, List.filterMap_cons, h a (List.mem_cons_self ..), fm_congr fun x hx => h x (List.mem_cons_of_mem _ hx)]
theorem filterMap_zip {names : List Str} : ∀ {vals : List Value}, vals.length = names.length → names.Nodup → (names.filterMap fun n => ((names.zip vals).lookup n).map (n, ·)) = names.zip vals := by
  induction names with
  | nil => intro vals _ _; rfl
  | cons n ns ih =>
    intro vals hl hd
    cases vals with
    | nil => cases hl
    | cons v vs =>
      have hd' := List.nodup_cons.mp hd
      rw [List.zip_cons_cons, List.filterMap_cons, List.lookup_cons, beq_self_eq_true]
      dsimp only [Option.map_some]
      congr 1
      refine (fm_congr fun x hx => ?_).trans (ih (by simpa using hl) hd'.2)
      have : (x == n) = false := by
        rw [beq_eq_false_iff_ne]
        rintro rfl
        exact hd'.1 hx
      rw [List.lookup_cons, this]

noncomputable def plainPars (names : List Str) (p : Arguments) : Bool :=
  p.posonlyargs.isEmpty && p.args.map (·.arg) == names && p.vararg.isNone && p.kwonlyargs.isEmpty && p.kwarg.isNone

theorem bind_plain {fd : FuncData} {names : List Str} {vals : List Value} (h : plainPars names fd.params = true) (hd : fd.defaults = .none) (hn : names.Nodup) (hl : vals.length = names.length) :
    bindArgs fd ⟨vals, []⟩ = pure (names.zip vals) := by
  simp only [plainPars, Bool.and_eq_true, beq_iff_eq, List.isEmpty_iff, Option.isNone_iff_eq_none] at h
  obtain ⟨⟨⟨⟨h1, h2⟩, h3⟩, h4⟩, h5⟩ := h
  obtain ⟨nm, ql, ⟨po, ar, va, ko, kd, kw, df⟩, bd, sc, gl, cl, dft, kwd, an, mo, co, doc, ct, blt⟩ := fd
  dsimp only at h1 h2 h3 h4 h5 hd
  subst h1 h3 h4 h5 hd
  subst h2
  refine (if_neg (c := (decide (vals.length > (ar.map (·.arg)).length) && true) = true) ?_).trans ((if_neg (c := (!(List.filter (fun n => (List.lookup n ((ar.map (·.arg)).zip vals)).isNone) (List.take ((ar.map (·.arg)).length - (List.drop (([] : List Value).length - (ar.map (·.arg)).length) ([] : List Value)).length) (ar.map (·.arg)))).isEmpty) = true) ?_).trans ?_)
  · rw [hl]; simp
  · rw [List.filter_eq_nil_iff.mpr fun x hx => ?_]
    · exact Bool.false_ne_true
    · rw [lookup_zip_some hl x (List.mem_of_mem_take hx)]
      exact Bool.false_ne_true
  · simp only [Option.getD_none, List.map_nil, List.nil_append, List.append_nil, List.drop_nil, List.zip_nil_right]
    exact congrArg (fun l => (pure l : Sem _)) (filterMap_zip hl hn)

noncomputable def okFn (P : Names) (c : Sc) (f : Fn) (fd : FuncData) : Bool :=
  fd.globals == mainGlobals && fd.builtins == builtinsNs && fd.scope.names.all (fun x => x.2 != .cell) && !fd.scope.isCoroutine && !fd.scope.isGenerator && fd.scope.kind == .function &&
  (match fd.body with | .stmts b => cSs P c f.body b | _ => false) &&
  c.loc.all (fun x => lookS fd.scope.names x == some .local && !(Fast.sEq x ("__debug__" : Str))) && c.glob.all (fun x => lookS fd.scope.names x == some .globalImplicit && !(Fast.sEq x ("__debug__" : Str))) &&
  decide c.loc.Nodup && c.loc.length == f.slots && Nat.ble f.params f.slots && plainPars (c.loc.take f.params) fd.params && fd.defaults == .none

/-- at a stands the function that c and f tell -/
noncomputable def fnB (P : Names) (K : Frag) (a : Addr) (c : Sc) (f : Fn) : Bool := match K.lookup a with
  | some ⟨_, _, .func fd, _⟩ => okFn P c f fd && codeIn K fd.code fd.qualname
  | _ => false

theorem fnAt_of {K : Frag} {P : Names} {fs : List Fn} {hb : Heap} {a : Addr} {k : Nat} {c : Sc} {f : Fn} (X : K.In hb) (h : fnB P K a c f = true) (h3 : fs[k]? = some f) : FnAt P fs hb a k := by
  unfold fnB at h
  split at h
  · rename_i oc od fd sl e
    simp only [okFn, lookS_eq, sEq_beq, Bool.and_eq_true, beq_iff_eq, Bool.not_eq_true', List.all_eq_true, bne_iff_ne, ne_eq, decide_eq_true_eq] at h
    obtain ⟨⟨⟨⟨⟨⟨⟨⟨⟨⟨⟨⟨⟨⟨a1, a2⟩, a3⟩, a4⟩, a5⟩, a6⟩, a7⟩, a8⟩, a9⟩, a10⟩, a11⟩, a12⟩, a13⟩, a14⟩, h2⟩ := h
    split at a7
    · rename_i b hb
      refine ⟨_, fd, b, c, f, X _ _ e, rfl, codeRec_of X h2, h3, ⟨a1, a2, fun x hx => a3 x hx, a4, a5, a6, hb, fun s vals hv => ?_, fun x hx => a8 x hx, fun x hx => ?_, a10, a11, Nat.le_of_ble_eq_true a12, a7⟩⟩
      · have hle := Nat.le_of_ble_eq_true a12
        exact BindsTo.of_eq (bind_plain a13 a14 (List.Nodup.sublist (List.take_sublist _ _) a10) (by rw [hv, List.length_take, a11]; omega))
      · exact a9 x (List.contains_iff_mem.mp hx)
    · cases a7
  · cases h

noncomputable def tbl : List (Addr × Sc) := [(21, cHighest), (28, cReverseBits), (35, cLineMasks), (42, cSubtract), (49, cLineAttacks), (56, cObstruction), (63, cHyperbolaRook), (70, cHyperbolaBishop), (77, cHyperbolaAttacks), (84, cObstructionRook), (91, cObstructionBishop),
  (141, cIsGrowing), (148, cAddMasks), (155, cInnerSquares), (162, cAddRays), (169, cAddPawns), (176, cAddKnights), (183, cAddCastles), (190, cMakeGeometry), (197, cLawRay), (127, cGeometryInit), (204, cLaw)]

noncomputable def fnsB (K : Frag) : List (Addr × Sc) → List Fn → Bool
  | [], [] => true
  | (a, c) :: t, f :: fs => fnB namesP K a c f && fnsB K t fs
  | _, _ => false
theorem fnsB_get {K : Frag} : ∀ {t : List (Addr × Sc)} {fs : List Fn}, fnsB K t fs = true → ∀ (k : Nat) {a : Addr} {c : Sc}, t[k]? = some (a, c) → ∃ f, fs[k]? = some f ∧ fnB namesP K a c f = true
  | [], _, _, k, a, c, e => by simp at e
  | (a, c) :: t, f :: fs, h, k, a', c', e => by
    simp only [fnsB, Bool.and_eq_true] at h
    cases k with
    | zero => cases e; exact ⟨f, rfl, h.1⟩
    | succ k => exact fnsB_get h.2 k e
  | (a, c) :: t, [], h, k, a', c', e => by cases h

noncomputable def gsB (K : Frag) : List Str → List (Addr × Sc) → Bool
  | [], _ => true
  | x :: xs, p :: t => nsIn K mainGlobals x == some (some (.ref p.1)) && gsB K xs t
  | _ :: _, [] => false
theorem gsB_get {K : Frag} : ∀ {xs : List Str} {t : List (Addr × Sc)}, gsB K xs t = true → ∀ (k : Nat) {x : Str}, xs[k]? = some x → ∃ p, t[k]? = some p ∧ nsIn K mainGlobals x = some (some (.ref p.1))
  | [], _, _, k, x, e => by simp at e
  | x :: xs, p :: t, h, k, x', e => by
    simp only [gsB, Bool.and_eq_true, beq_iff_eq] at h
    cases k with
    | zero => cases e; exact ⟨p, rfl, h.1⟩
    | succ k => exact gsB_get h.2 k e
  | _ :: _, [], h, k, x', e => by cases h

noncomputable def intsB : List Value → List Int → Bool
  | [], [] => true
  | v :: vs, m :: ms => (match v with | .int n _ => n == m | _ => false) && intsB vs ms
  | _, _ => false
theorem ints_of : ∀ {vs : List Value} {ns : List Int}, intsB vs ns = true → IntsAre vs ns
  | [], [], _ => .nil
  | v :: vs, m :: ms, h => by
    simp only [intsB, Bool.and_eq_true] at h
    obtain ⟨h1, h2⟩ := h
    split at h1
    · rw [← beq_iff_eq.mp h1]
      exact .cons _ _ (ints_of h2)
    · cases h1
  | [], _ :: _, h => by cases h
  | _ :: _, [], h => by cases h
noncomputable def tupB (K : Frag) (a : Addr) (ns : List Int) : Bool := match K.lookup a with
  | some ⟨.type n, _, .seq vs _, _⟩ => n == "tuple" && intsB vs.toList ns
  | _ => false
theorem tup_of {K : Frag} {hb : Heap} {a : Addr} {ns : List Int} (X : K.In hb) (h : tupB K a ns = true) : ∃ vals, IsTup hb a vals.toArray ∧ IntsAre vals ns := by
  unfold tupB at h
  split at h
  · rename_i n od vs ep sl e
    simp only [Bool.and_eq_true, beq_iff_eq] at h
    exact ⟨vs.toList, ⟨_, X _ _ e, by rw [h.1], ep, by simp⟩, ints_of h.2⟩
  · cases h

noncomputable def attrB (K : Frag) (x : Str) : Bool := plainGet K 130 x && (match findIn K (.ref 130) x with | some a => noGet K a | none => false) && (match takerIn K 130 x with | some none => true | _ => false)
theorem attr_of {K : Frag} {x : Str} (h : attrB K x = true) : plainGet K 130 x = true ∧ (∃ at', findIn K (.ref 130) x = some at' ∧ noGet K at' = true) ∧ takerIn K 130 x = some none := by
  unfold attrB at h
  simp only [Bool.and_eq_true] at h
  obtain ⟨⟨h1, h2⟩, h3⟩ := h
  refine ⟨h1, ?_, ?_⟩
  · split at h2
    · rename_i a e; exact ⟨a, e, h2⟩
    · cases h2
  · split at h3
    · rename_i e; exact e
    · cases h3

noncomputable def intB (K : Frag) (x : Str) (i : Int) : Bool := match nsIn K mainGlobals x with
  | some (some (.int n _)) => n == i
  | _ => false
theorem int_of {K : Frag} {h : Heap} {mg : Str → Option Value} {x : Str} {i : Int} (X : K.In h) (g : h.Ns mainGlobals mg) (e : intB K x i = true) : ∃ t, mg x = some (.int i t) := by
  unfold intB at e
  split at e
  · rename_i n t q
    rw [← beq_iff_eq.mp e]
    exact ⟨t, mg_of X g q⟩
  · cases e

/-- what the walk asks of the top's heap -/
noncomputable def topOk (K : Frag) : Bool :=
  fnsB K tbl fns && gsB K namesP.fns tbl && nsIn K mainGlobals "range" == some none && nsIn K mainGlobals "len" == some none &&
  intB K "BISHOP" 3 && intB K "ROOK" 4 && intB K "QUEEN" 5 &&
  nsIn K mainGlobals "STEP_FILES" == some (some (.ref 112)) && tupB K 112 [0, 1, 0, -1, 1, 1, -1, -1] &&
  nsIn K mainGlobals "STEP_RANKS" == some (some (.ref 113)) && tupB K 113 [1, 0, -1, 0, 1, -1, -1, 1] &&
  nsIn K mainGlobals "Geometry" == some (some (.ref 130)) && makesIn K 130 && keepIn K (.ref 130) &&
  findIn K (.ref 130) "__init__" == some (some (.ref 127)) && typeIn K (.ref 127) == some (.type "function") &&
  namesP.attrs.all (attrB K) && hasDictIn K 130 && findIn K (.ref 130) "__setattr__" == some (some (.builtin "object.__setattr__")) && plainOver K 130

theorem theWd {prog : Program} {w : World} {K : Frag} {mg mb : Str → Option Value} {hb : Heap} {pr : Program} {loose : List Str} {mean : ExcName → Option Value} (X : K.In hb) (H : topOk K = true) (T : Top pr loose mean mg mb hb) :
    Wd prog w K 130 namesP glbG fns mg mb hb := by
  unfold topOk at H
  simp only [Bool.and_eq_true, beq_iff_eq] at H
  obtain ⟨⟨⟨⟨⟨⟨⟨⟨⟨⟨⟨⟨⟨⟨⟨⟨⟨⟨⟨a1, a2⟩, a3⟩, a4⟩, a5⟩, a6⟩, a7⟩, a8⟩, a9⟩, a10⟩, a11⟩, a12⟩, a13⟩, a14⟩, a15⟩, a16⟩, a17⟩, a18⟩, a19⟩, a20⟩ := H
  exact {
    g := T.g
    b := T.b
    nolim := T.nolimit
    range := ⟨mg_none_of X T.g a3, (T.builtins _ (by decide)).trans boot_range⟩
    len := ⟨mg_none_of X T.g a4, (T.builtins _ (by decide)).trans (by decide +kernel)⟩
    gi := fun k x i h1 h2 => by
      match k, h1, h2 with
      | 0, h1, h2 => cases h1; cases h2; exact int_of X T.g a5
      | 1, h1, h2 => cases h1; cases h2; exact int_of X T.g a6
      | 2, h1, h2 => cases h1; cases h2; exact int_of X T.g a7
      | _ + 3, h1, h2 => cases h1
    gt := fun k x ns h1 h2 => by
      match k, h1, h2 with
      | 0, h1, h2 =>
        cases h1; cases h2
        obtain ⟨vals, q1, q2⟩ := tup_of X a9
        exact ⟨112, vals, mg_of X T.g a8, q1, q2⟩
      | 1, h1, h2 =>
        cases h1; cases h2
        obtain ⟨vals, q1, q2⟩ := tup_of X a11
        exact ⟨113, vals, mg_of X T.g a10, q1, q2⟩
      | _ + 2, h1, h2 => cases h1
    fn := fun k x h => by
      obtain ⟨⟨a, c⟩, e, q⟩ := gsB_get a2 k h
      obtain ⟨f, e', q'⟩ := fnsB_get a1 k e
      exact ⟨a, mg_of X T.g q, fnAt_of X q' e'⟩
    cls := mg_of X T.g a12
    kin := X
    mkb := a13
    keep := a14
    ini := by
      obtain ⟨f, e', q'⟩ := fnsB_get a1 20 (a := 127) (c := cGeometryInit) rfl
      exact ⟨127, a15, a16, fnAt_of X q' e'⟩
    attr := fun f x h => attr_of (List.all_eq_true.mp a17 x (List.mem_of_getElem? h))
    hasd := a18
    sa := a19
    po := a20
    nodup := by decide +kernel
    few := by decide }

/-- the part of a heap that stands at the addresses -/
noncomputable def frOf (as : List Addr) (h : Heap) : Frag := as.filterMap fun a => (h.get? a).map fun o => (a, o)
theorem frOf_in (h : Heap) : ∀ as : List Addr, (frOf as h).In h
  | [], a, o, e => by cases e
  | b :: as, a, o, e => by
    unfold frOf at e
    rw [List.filterMap_cons] at e
    cases q : h.get? b with
    | none => rw [q] at e; exact frOf_in h as a o e
    | some o' =>
      rw [q] at e
      dsimp only [Option.map_some] at e
      rw [List.lookup_cons] at e
      split at e
      · rename_i h1
        cases e
        rw [beq_iff_eq.mp h1]
        exact q
      · exact frOf_in h as a o e

noncomputable def theAs : List Addr := [3, 20, 21, 27, 28, 34, 35, 41, 42, 48, 49, 55, 56, 62, 63, 69, 70, 76, 77, 83, 84, 90, 91, 112, 113, 126, 127, 129, 130, 140, 141, 147, 148, 154, 155, 161, 162, 168, 169, 175, 176, 182, 183, 189, 190, 196, 197, 203, 204]
noncomputable def Says (h : Heap) : Prop := ∃ K : Frag, K.In h ∧ topOk K = true
theorem says_of {h : Heap} (e : topOk (frOf theAs h) = true) : Says h := ⟨_, frOf_in h _, e⟩
theorem says_keeps {h h' : Heap} (s : Says h) (k : ∀ b o, h.get? b = some o → h'.get? b = some o) : Says h' := by
  obtain ⟨K, X, e⟩ := s
  exact ⟨K, fun a o q => k _ _ (X a o q), e⟩
end Mine
end
section
namespace Mine

/-! bits -/

theorem tb_ofLt {x w i : Nat} (h : x < 2 ^ w) (hi : w ≤ i) : x.testBit i = false := Nat.testBit_lt_two_pow (Nat.lt_of_lt_of_le h (Nat.pow_le_pow_right (by decide) hi))

/-- no bit below j -/
noncomputable def clr (x j : Nat) : Bool := decide (∀ i, i < j → x.testBit i = false)

theorem clr_zero (x : Nat) : clr x 0 = true := by unfold clr; simp
theorem clr_succ (x j : Nat) : clr x (j + 1) = (!x.testBit 0 && clr (x / 2) j) := by
  unfold clr
  rw [Bool.eq_iff_iff]
  simp only [decide_eq_true_eq, Bool.and_eq_true, Bool.not_eq_true']
  constructor
  · intro h
    refine ⟨h 0 (by omega), fun i hi => ?_⟩
    rw [← Nat.testBit_succ]
    exact h (i + 1) (by omega)
  · rintro ⟨h0, h⟩ i hi
    cases i with
    | zero => exact h0
    | succ i => rw [Nat.testBit_succ]; exact h i (by omega)

theorem tb_dec : ∀ (w q : Nat), q < 2 ^ w → ∀ j, j < w → ((q + 2 ^ w - 1) % 2 ^ w).testBit j = (q.testBit j ^^ clr q j)
  | 0, q, _, j, hj => by omega
  | w + 1, q, hq, j, hj => by
    have hp : 2 ^ (w + 1) = 2 * 2 ^ w := by rw [Nat.pow_succ]; omega
    have hpos : 0 < 2 ^ w := Nat.two_pow_pos w
    have hq2 : q / 2 < 2 ^ w := by omega
    have ih := tb_dec w (q / 2) hq2
    rcases Nat.mod_two_eq_zero_or_one q with he | ho
    · have e : (q + 2 ^ (w + 1) - 1) % 2 ^ (w + 1) = 2 * ((q / 2 + 2 ^ w - 1) % 2 ^ w) + 1 := by
        rw [hp]
        rcases Nat.eq_zero_or_pos (q / 2) with hz | hz
        · have hq0 : q = 0 := by omega
          subst hq0
          rw [Nat.mod_eq_of_lt (by omega), Nat.mod_eq_of_lt (by omega)]
          omega
        · have h1 : q + 2 * 2 ^ w - 1 = (q - 1) + 2 * 2 ^ w := by omega
          have h2 : q / 2 + 2 ^ w - 1 = (q / 2 - 1) + 2 ^ w := by omega
          rw [h1, h2, Nat.add_mod_right, Nat.add_mod_right, Nat.mod_eq_of_lt (by omega), Nat.mod_eq_of_lt (by omega)]
          omega
      rw [e]
      cases j with
      | zero =>
        rw [clr_zero, Nat.testBit_zero, Nat.testBit_zero]
        have : (2 * ((q / 2 + 2 ^ w - 1) % 2 ^ w) + 1) % 2 = 1 := by omega
        simp [this, he]
      | succ j =>
        rw [Nat.testBit_succ, Nat.testBit_succ, clr_succ]
        have h3 : (2 * ((q / 2 + 2 ^ w - 1) % 2 ^ w) + 1) / 2 = (q / 2 + 2 ^ w - 1) % 2 ^ w := by omega
        rw [h3, ih j (by omega)]
        have : q.testBit 0 = false := by rw [Nat.testBit_zero]; simp [he]
        simp [this]
    · have e : (q + 2 ^ (w + 1) - 1) % 2 ^ (w + 1) = 2 * (q / 2) := by
        have h1 : q + 2 ^ (w + 1) - 1 = (q - 1) + 2 ^ (w + 1) := by omega
        rw [h1, Nat.add_mod_right, Nat.mod_eq_of_lt (by omega)]
        omega
      rw [e]
      have hb : q.testBit 0 = true := by rw [Nat.testBit_zero]; simp [ho]
      cases j with
      | zero =>
        rw [clr_zero, hb, Nat.testBit_zero]
        have : (2 * (q / 2)) % 2 = 0 := by omega
        simp [this]
      | succ j =>
        rw [Nat.testBit_succ, Nat.testBit_succ, clr_succ, hb]
        have h3 : 2 * (q / 2) / 2 = q / 2 := by omega
        rw [h3]
        simp

/-- no bit of x strictly between a and b -/
noncomputable def btw (x a b : Nat) : Bool := decide (∀ j, j < b → a < j → x.testBit j = false)
theorem btw_iff {x a b : Nat} : btw x a b = true ↔ ∀ j, a < j → j < b → x.testBit j = false := by
  unfold btw
  rw [decide_eq_true_eq]
  exact ⟨fun h j h1 h2 => h j h2 h1, fun h j h1 h2 => h j h2 h1⟩

theorem btw_shift (x a b : Nat) (h : a < b) : clr (x / 2 ^ (a + 1)) (b - a - 1) = btw x a b := by
  rw [Bool.eq_iff_iff, btw_iff]
  unfold clr
  rw [decide_eq_true_eq]
  constructor
  · intro H j h1 h2
    have := H (j - a - 1) (by omega)
    rw [Nat.testBit_div_two_pow] at this
    rwa [show j - a - 1 + (a + 1) = j by omega] at this
  · intro H i hi
    rw [Nat.testBit_div_two_pow]
    exact H _ (by omega) (by omega)

/-- o less a bit that it has not, on a board of sz places -/
theorem tb_less {o sz s : Nat} (ho : o < 2 ^ sz) (hs : s < sz) (hb : o.testBit s = false) {i : Nat} (hi : i < sz) :
    ((o + 2 ^ sz - 2 ^ s) % 2 ^ sz).testBit i = if s < i then (o.testBit i ^^ btw o s i) else if i < s then o.testBit i else true := by
  have hw : sz = (sz - s - 1) + (s + 1) := by omega
  generalize hwd : sz - s - 1 = w at hw
  have hp1 : 2 ^ (s + 1) = 2 * 2 ^ s := by rw [Nat.pow_succ]; omega
  have hpz : 2 ^ sz = 2 ^ w * 2 ^ (s + 1) := by rw [hw, Nat.pow_add]
  have hs0 : 0 < 2 ^ s := Nat.two_pow_pos s
  have hw0 : 0 < 2 ^ w := Nat.two_pow_pos w
  have hr : o % 2 ^ (s + 1) < 2 ^ s := by
    have h1 : (o % 2 ^ (s + 1)).testBit s = false := by rw [Nat.testBit_mod_two_pow]; simp [hb]
    rcases Nat.lt_or_ge (o % 2 ^ (s + 1)) (2 ^ s) with h | h
    · exact h
    · have h2 : o % 2 ^ (s + 1) < 2 ^ (s + 1) := Nat.mod_lt _ (Nat.two_pow_pos _)
      have h3 : (o % 2 ^ (s + 1)) / 2 ^ s = 1 := by
        have : (o % 2 ^ (s + 1)) / 2 ^ s < 2 := by rw [Nat.div_lt_iff_lt_mul hs0]; omega
        have : 1 ≤ (o % 2 ^ (s + 1)) / 2 ^ s := by rw [Nat.le_div_iff_mul_le hs0]; omega
        omega
      rw [Nat.testBit_eq_decide_div_mod_eq, h3] at h1
      simp at h1
  have hq : o / 2 ^ (s + 1) < 2 ^ w := by rw [Nat.div_lt_iff_lt_mul (Nat.two_pow_pos _), ← hpz]; exact ho
  have hd := Nat.div_add_mod o (2 ^ (s + 1))
  generalize hqd : o / 2 ^ (s + 1) = q at hq hd
  generalize hrd : o % 2 ^ (s + 1) = r at hr hd
  have key : (o + 2 ^ sz - 2 ^ s) % 2 ^ sz = 2 ^ (s + 1) * ((q + 2 ^ w - 1) % 2 ^ w) + (2 ^ s + r) := by
    rw [hpz]
    rcases Nat.eq_zero_or_pos q with hz | hz
    · subst hz
      rw [Nat.mul_zero, Nat.zero_add] at hd
      rw [Nat.zero_add, Nat.mod_eq_of_lt (show 2 ^ w - 1 < 2 ^ w by omega), Nat.mul_sub, Nat.mul_one, Nat.mul_comm (2 ^ (s + 1)) (2 ^ w)]
      have hge : 2 ^ (s + 1) ≤ 2 ^ w * 2 ^ (s + 1) := Nat.le_mul_of_pos_left _ hw0
      rw [Nat.mod_eq_of_lt (by omega)]
      omega
    · have h2 : q + 2 ^ w - 1 = (q - 1) + 2 ^ w := by omega
      rw [h2, Nat.add_mod_right, Nat.mod_eq_of_lt (show q - 1 < 2 ^ w by omega)]
      have h3 : 2 ^ (s + 1) * q = 2 ^ (s + 1) * (q - 1) + 2 ^ (s + 1) := by
        rw [← Nat.mul_succ]; congr 1; omega
      have h4 : o + 2 ^ w * 2 ^ (s + 1) - 2 ^ s = (o - 2 ^ s) + 2 ^ w * 2 ^ (s + 1) := by omega
      rw [h4, Nat.add_mod_right, Nat.mod_eq_of_lt (by rw [← hpz]; omega)]
      omega
  rw [key, Nat.testBit_two_pow_mul_add _ (by omega)]
  by_cases h1 : s < i
  · rw [if_neg (by omega), if_pos h1, tb_dec w q hq _ (by omega), show i - (s + 1) = i - s - 1 by omega, ← hqd, btw_shift o s i h1, Nat.testBit_div_two_pow, show i - s - 1 + (s + 1) = i by omega]
  · rw [if_pos (by omega), if_neg h1]
    have e : 2 ^ s + r = 2 ^ s * 1 + r := by omega
    rw [e, Nat.testBit_two_pow_mul_add _ hr]
    by_cases h2 : i < s
    · rw [if_pos h2, if_pos h2, ← hrd, Nat.testBit_mod_two_pow]
      simp [show i < s + 1 by omega]
    · have : i = s := by omega
      subst this
      rw [if_neg (by omega), if_neg (by omega)]
      simp

/-- the board turned round -/
noncomputable def rev : Nat → Nat → Nat → Nat
  | 0, _, out => out
  | k + 1, b, out => rev k (b / 2) ((out * 2) ||| (b &&& 1))

theorem tb_rev : ∀ (k b out i : Nat), (rev k b out).testBit i = if i < k then b.testBit (k - 1 - i) else out.testBit (i - k)
  | 0, b, out, i => by simp [rev]
  | k + 1, b, out, i => by
    unfold rev
    rw [tb_rev k]
    by_cases h : i < k
    · rw [if_pos h, if_pos (by omega), ← Nat.testBit_succ]
      congr 1
      omega
    · rw [if_neg h, Nat.testBit_or, Nat.testBit_and]
      by_cases h2 : i = k
      · subst h2
        rw [if_pos (by omega), Nat.sub_self, Nat.testBit_zero, show i + 1 - 1 - i = 0 by omega]
        have : out * 2 % 2 = 0 := by omega
        simp [this]
      · rw [if_neg (by omega)]
        have h3 : i - k = (i - (k + 1)) + 1 := by omega
        rw [h3, Nat.testBit_succ, Nat.testBit_succ, Nat.mul_div_cancel _ (by decide : 0 < 2)]
        have : (1 : Nat).testBit (i - (k + 1) + 1) = false := by rw [Nat.testBit_succ]; simp
        simp [this]
theorem rev_lt : ∀ (k b out w : Nat), out < 2 ^ w → rev k b out < 2 ^ (w + k)
  | 0, b, out, w, h => h
  | k + 1, b, out, w, h => by
    unfold rev
    have h1 : (out * 2) ||| (b &&& 1) < 2 ^ (w + 1) := by
      apply Nat.or_lt_two_pow
      · rw [Nat.pow_succ]; omega
      · have : b &&& 1 ≤ 1 := Nat.and_le_right
        have := Nat.one_lt_two_pow (n := w + 1) (by omega)
        omega
    have := rev_lt k (b / 2) _ (w + 1) h1
    rwa [show w + (k + 1) = w + 1 + k by omega]

/-- both the board and the board turned round -/
noncomputable def attN (sz s mask men : Nat) : Nat :=
  let o := men &&& mask
  (((o + 2 ^ sz - 2 ^ s) % 2 ^ sz) ^^^ rev sz ((rev sz o 0 + 2 ^ sz - 2 ^ (sz - 1 - s)) % 2 ^ sz) 0) &&& mask

theorem tb_att {sz s mask men : Nat} (hm : mask < 2 ^ sz) (hs : s < sz) (hb : mask.testBit s = false) (i : Nat) :
    (attN sz s mask men).testBit i = (mask.testBit i && if s < i then btw (men &&& mask) s i else btw (men &&& mask) i s) := by
  by_cases hi : i < sz
  · unfold attN
    dsimp only
    have ho : men &&& mask < 2 ^ sz := Nat.lt_of_le_of_lt Nat.and_le_right hm
    have hob : (men &&& mask).testBit s = false := by rw [Nat.testBit_and, hb]; simp
    generalize hod : men &&& mask = o at ho hob ⊢
    have hr : rev sz o 0 < 2 ^ sz := by simpa using rev_lt sz o 0 0 (by decide)
    have hrb : ∀ j, j < sz → (rev sz o 0).testBit j = o.testBit (sz - 1 - j) := fun j hj => by rw [tb_rev, if_pos hj]
    have hrs : (rev sz o 0).testBit (sz - 1 - s) = false := by rw [hrb _ (by omega), show sz - 1 - (sz - 1 - s) = s by omega]; exact hob
    rw [Nat.testBit_and, Nat.testBit_xor, tb_less ho hs hob hi, tb_rev, if_pos hi, tb_less hr (by omega) hrs (by omega)]
    rcases Nat.lt_trichotomy i s with h | h | h
    · rw [if_neg (show ¬ s < i by omega), if_pos h, if_pos (show sz - 1 - s < sz - 1 - i by omega), hrb _ (by omega), show sz - 1 - (sz - 1 - i) = i by omega, if_neg (show ¬ s < i by omega)]
      have e : btw (rev sz o 0) (sz - 1 - s) (sz - 1 - i) = btw o i s := by
        rw [Bool.eq_iff_iff, btw_iff, btw_iff]
        constructor
        · intro H j h1 h2
          have := H (sz - 1 - j) (by omega) (by omega)
          rwa [hrb _ (by omega), show sz - 1 - (sz - 1 - j) = j by omega] at this
        · intro H j h1 h2
          rw [hrb _ (by omega)]
          exact H _ (by omega) (by omega)
      rw [e]
      cases o.testBit i <;> cases btw o i s <;> cases mask.testBit i <;> rfl
    · subst h
      rw [hb]; simp
    · rw [if_pos h, if_neg (show ¬ sz - 1 - s < sz - 1 - i by omega), if_pos (show sz - 1 - i < sz - 1 - s by omega), hrb _ (by omega), show sz - 1 - (sz - 1 - i) = i by omega, if_pos h]
      cases o.testBit i <;> cases btw o s i <;> cases mask.testBit i <;> rfl
  · have h1 : mask.testBit i = false := tb_ofLt hm (by omega)
    unfold attN
    dsimp only
    rw [Nat.testBit_and, h1]; simp

/-! by one difference -/

theorem least_bit : ∀ (n x : Nat), x < 2 ^ n → x ≠ 0 → ∃ u, x.testBit u = true ∧ clr x u = true
  | 0, x, h, h0 => by omega
  | n + 1, x, h, h0 => by
    rcases Nat.mod_two_eq_zero_or_one x with he | ho
    · have h1 : x / 2 < 2 ^ n := by rw [Nat.pow_succ] at h; omega
      obtain ⟨u, hu, hc⟩ := least_bit n (x / 2) h1 (by omega)
      refine ⟨u + 1, by rw [Nat.testBit_succ]; exact hu, ?_⟩
      rw [clr_succ, hc, Nat.testBit_zero]
      simp [he]
    · exact ⟨0, by rw [Nat.testBit_zero]; simp [ho], clr_zero x⟩

theorem low_bit {x u : Nat} (hu : x.testBit u = true) (hc : clr x u = true) : x &&& (x ^^^ (x - 1)) = 2 ^ u := by
  have hx0 : x ≠ 0 := by intro h; subst h; simp at hu
  obtain ⟨w, hw⟩ : ∃ w, x < 2 ^ w := ⟨x, Nat.lt_two_pow_self⟩
  have huw : u < w := by
    rcases Nat.lt_or_ge u w with h | h
    · exact h
    · rw [tb_ofLt hw h] at hu; cases hu
  have e : x - 1 = (x + 2 ^ w - 1) % 2 ^ w := by
    rw [show x + 2 ^ w - 1 = (x - 1) + 2 ^ w by omega, Nat.add_mod_right, Nat.mod_eq_of_lt (by omega)]
  have hcl : ∀ i, i < u → x.testBit i = false := by simpa [clr] using hc
  apply Nat.eq_of_testBit_eq
  intro j
  rw [Nat.testBit_two_pow]
  by_cases hj : j < w
  · rw [Nat.testBit_and, Nat.testBit_xor, e, tb_dec w x hw j hj]
    rcases Nat.lt_trichotomy j u with h | h | h
    · rw [hcl j h]; simp; omega
    · subst h; rw [hu, hc]; simp
    · have : clr x j = false := by
        unfold clr
        rw [decide_eq_false_iff_not]
        intro H
        rw [H u h] at hu; cases hu
      rw [this]
      simp; omega
  · rw [Nat.testBit_and, tb_ofLt hw (by omega)]
    simp; omega

theorem tb_run {a d i : Nat} (h : d ≤ a) : (2 ^ a - 2 ^ d).testBit i = (decide (d ≤ i) && decide (i < a)) := by
  have e : 2 ^ a - 2 ^ d = 2 ^ d * (2 ^ (a - d) - 1) + 0 := by
    rw [Nat.mul_sub, Nat.mul_one, ← Nat.pow_add, show d + (a - d) = a by omega]; omega
  rw [e, Nat.testBit_two_pow_mul_add _ (Nat.two_pow_pos d)]
  by_cases h1 : i < d
  · rw [if_pos h1]; simp; omega
  · rw [if_neg h1, Nat.testBit_two_pow_sub_one]
    rw [Bool.eq_iff_iff]
    simp only [decide_eq_true_eq, Bool.and_eq_true]
    omega

noncomputable def obsN (sz mask high d : Nat) : Nat := ((2 * high + 2 ^ sz - 2 ^ d) % 2 ^ sz) &&& mask

theorem tb_obs {sz s mask men d : Nat} (hm : mask < 2 ^ sz) (hs : s < sz) (hb : mask.testBit s = false)
    (hd1 : 2 ^ d ≤ ((mask &&& (2 ^ s - 1)) &&& men) ||| 1) (hd2 : ((mask &&& (2 ^ s - 1)) &&& men) ||| 1 < 2 ^ (d + 1)) {above : Nat} (ha : ∀ i, above.testBit i = ((mask.testBit i && men.testBit i) && (decide (s < i) && decide (i < sz)))) (hal : above < 2 ^ sz) (i : Nat) :
    (obsN sz mask (if above = 0 then 0 else above &&& (above ^^^ (above - 1))) d).testBit i = (mask.testBit i && if s < i then btw (men &&& mask) s i else btw (men &&& mask) i s) := by
  by_cases hi : i < sz
  · generalize hbl : (mask &&& (2 ^ s - 1)) &&& men = below at hd1 hd2
    have hbb : ∀ j, below.testBit j = (mask.testBit j && decide (j < s) && men.testBit j) := by
      intro j; rw [← hbl, Nat.testBit_and, Nat.testBit_and, Nat.testBit_two_pow_sub_one]
    have hbs : below < 2 ^ s := by
      rw [← hbl]
      refine Nat.lt_of_le_of_lt Nat.and_le_left (Nat.lt_of_le_of_lt Nat.and_le_right ?_)
      have := Nat.two_pow_pos s; omega
    have hob : ∀ j, (men &&& mask).testBit j = (mask.testBit j && men.testBit j) := fun j => by rw [Nat.testBit_and, Bool.and_comm]
    -- the top bit of below | 1
    have htop : (below ||| 1).testBit d = true := by
      have h1 : (below ||| 1) / 2 ^ d = 1 := by
        have : (below ||| 1) / 2 ^ d < 2 := by rw [Nat.div_lt_iff_lt_mul (Nat.two_pow_pos d)]; rw [Nat.pow_succ] at hd2; omega
        have : 1 ≤ (below ||| 1) / 2 ^ d := by rw [Nat.le_div_iff_mul_le (Nat.two_pow_pos d)]; omega
        omega
      rw [Nat.testBit_eq_decide_div_mod_eq, h1]; rfl
    have habove : ∀ j, d < j → below.testBit j = false := by
      intro j hj
      have : (below ||| 1).testBit j = false := tb_ofLt hd2 (by omega)
      rw [Nat.testBit_or, Bool.or_eq_false_iff] at this
      exact this.1
    have h1b : ∀ j, (1 : Nat).testBit j = decide (j = 0) := by
      intro j
      have := Nat.testBit_two_pow (n := 0) (m := j)
      rw [Nat.pow_zero] at this
      rw [this, decide_eq_decide]
      exact eq_comm
    have hdb : d ≠ 0 → below.testBit d = true := by
      intro h0
      rw [Nat.testBit_or, h1b] at htop
      simpa [h0] using htop
    have hds : d ≤ s := by
      rcases Nat.eq_zero_or_pos d with h0 | h0
      · omega
      · have := hdb (by omega)
        rw [hbb] at this
        simp only [Bool.and_eq_true, decide_eq_true_eq] at this
        omega
    have hdl : ∀ j, j < s → mask.testBit j = true → (decide (d ≤ j) = btw (men &&& mask) j s) := by
      intro j hj hmj
      rw [Bool.eq_iff_iff, decide_eq_true_eq, btw_iff]
      constructor
      · intro h k hk1 hk2
        have := habove k (by omega)
        rw [hbb] at this
        rw [hob]
        simpa [hk2] using this
      · intro H
        rcases Nat.lt_or_ge j d with h | h
        · exfalso
          have h1 := hdb (by omega)
          rw [hbb] at h1
          simp only [Bool.and_eq_true, decide_eq_true_eq] at h1
          have h2 := H d h h1.1.2
          rw [hob, h1.1.1, h1.2] at h2
          cases h2
        · exact h
    have hpd : 2 ^ d ≤ 2 ^ sz := Nat.pow_le_pow_right (by decide) (by omega)
    have hpd0 : 0 < 2 ^ d := Nat.two_pow_pos d
    unfold obsN
    rw [Nat.testBit_and]
    cases hmi : mask.testBit i with
    | false => simp
    | true =>
      rw [Bool.and_true, Bool.true_and]
      have hne : i ≠ s := by intro h; subst h; rw [hb] at hmi; cases hmi
      by_cases ha0 : above = 0
      · rw [if_pos ha0, Nat.mul_zero, Nat.zero_add, Nat.mod_eq_of_lt (by omega), tb_run (by omega)]
        by_cases h : s < i
        · rw [if_pos h]
          have : btw (men &&& mask) s i = true := by
            rw [btw_iff]
            intro j h1 h2
            have := ha j
            rw [ha0, Nat.zero_testBit] at this
            rw [hob]
            simpa [h1, show j < sz by omega] using this.symm
          rw [this]
          simp [hi]; omega
        · rw [if_neg h, ← hdl i (by omega) hmi]
          simp [hi]
      · rw [if_neg ha0]
        obtain ⟨u, hu, hc⟩ := least_bit sz above hal ha0
        rw [low_bit hu hc]
        have hu' := hu
        rw [ha] at hu'
        simp only [Bool.and_eq_true, decide_eq_true_eq] at hu'
        have hcl : ∀ i, i < u → above.testBit i = false := by simpa [clr] using hc
        have hpu : 2 * 2 ^ u = 2 ^ (u + 1) := by rw [Nat.pow_succ]; omega
        have hpu2 : 2 ^ (u + 1) ≤ 2 ^ sz := Nat.pow_le_pow_right (by decide) (by omega)
        have hdu : 2 ^ d ≤ 2 ^ (u + 1) := Nat.pow_le_pow_right (by decide) (by omega)
        rw [hpu, show 2 ^ (u + 1) + 2 ^ sz - 2 ^ d = (2 ^ (u + 1) - 2 ^ d) + 2 ^ sz by omega, Nat.add_mod_right, Nat.mod_eq_of_lt (by omega), tb_run (by omega)]
        by_cases h : s < i
        · rw [if_pos h]
          have e : (decide (i < u + 1)) = btw (men &&& mask) s i := by
            rw [Bool.eq_iff_iff, decide_eq_true_eq, btw_iff]
            constructor
            · intro h1 j h2 h3
              have := hcl j (by omega)
              rw [ha] at this
              rw [hob]
              simpa [h2, show j < sz by omega] using this
            · intro H
              rcases Nat.lt_or_ge u i with h1 | h1
              · have := H u hu'.2.1 h1
                rw [hob, hu'.1.1, hu'.1.2] at this
                cases this
              · omega
          rw [← e]
          simp; omega
        · rw [if_neg h, ← hdl i (by omega) hmi]
          simp; omega
  · have h1 : mask.testBit i = false := tb_ofLt hm (by omega)
    unfold obsN
    rw [Nat.testBit_and, h1]; simp
end Mine
end
section
namespace Mine

noncomputable def sumB : List Nat → Nat
  | [] => 0
  | p :: r => 2 ^ p + sumB r

theorem and_zero_of {a p : Nat} (h : a.testBit p = false) : 2 ^ p &&& a = 0 := by
  apply Nat.eq_of_testBit_eq
  intro i
  rw [Nat.testBit_and, Nat.testBit_two_pow, Nat.zero_testBit]
  by_cases hi : p = i
  · subst hi; simp [h]
  · simp [hi]

theorem or_add_and' (m : Nat) : ∀ n : Nat, (m ||| n) + (m &&& n) = m + n := by
  induction m using Nat.strongRecOn with
  | ind m ih =>
    intro n
    by_cases h0 : m = 0
    · subst h0; simp
    · have ih' := ih (m / 2) (by omega) (n / 2)
      rw [← Nat.or_div_two, ← Nat.and_div_two] at ih'
      have o1 := @Nat.or_mod_two_eq_one m n
      have a1 := @Nat.and_mod_two_eq_one m n
      omega

theorem add_eq_or {a b : Nat} (h : a &&& b = 0) : a + b = a ||| b := by
  have := or_add_and' a b
  omega

theorem tb_sum : ∀ {l : List Nat}, l.Nodup → ∀ i, (sumB l).testBit i = decide (i ∈ l)
  | [], _, i => by simp [sumB]
  | p :: r, h, i => by
    have hd := List.nodup_cons.mp h
    have ih := tb_sum hd.2
    have hp : (sumB r).testBit p = false := by rw [ih]; simpa using hd.1
    unfold sumB
    rw [add_eq_or (and_zero_of hp), Nat.testBit_or, ih, Nat.testBit_two_pow]
    rw [Bool.eq_iff_iff]
    simp only [Bool.or_eq_true, decide_eq_true_eq, List.mem_cons]
    exact or_congr_left eq_comm

theorem sumB_append : ∀ (a b : List Nat), sumB (a ++ b) = sumB a + sumB b
  | [], b => by simp [sumB]
  | p :: r, b => by rw [List.cons_append, sumB, sumB, sumB_append r b]; omega

theorem sumB_lt {l : List Nat} {n : Nat} (h : l.Nodup) (hl : ∀ p ∈ l, p < n) : sumB l < 2 ^ n := by
  apply Nat.lt_pow_two_of_testBit
  intro i hi
  rw [tb_sum h]
  simp only [decide_eq_false_iff_not]
  intro hm
  have := hl i hm
  omega

theorem sumB_or {a b : List Nat} (h : (a ++ b).Nodup) : sumB a ||| sumB b = sumB a + sumB b := by
  rw [← sumB_append]
  obtain ⟨h1, h2, _⟩ := List.nodup_append.mp h
  apply Nat.eq_of_testBit_eq
  intro i
  rw [Nat.testBit_or, tb_sum h1, tb_sum h2, tb_sum h]
  rw [Bool.eq_iff_iff]
  simp

/-- up to the first man, he too -/
noncomputable def reachL (men : Nat) : List Nat → List Nat
  | [] => []
  | p :: r => p :: (if men.testBit p then [] else reachL men r)

theorem reach_sub (men : Nat) : ∀ l, (reachL men l).Sublist l
  | [] => .slnil
  | p :: r => by
    unfold reachL
    split
    · exact (List.nil_sublist r).cons₂ p
    · exact (reach_sub men r).cons₂ p

theorem mem_reach_up {men : Nat} : ∀ {l : List Nat}, l.Pairwise (· < ·) → ∀ i, i ∈ reachL men l ↔ i ∈ l ∧ ∀ j ∈ l, j < i → men.testBit j = false
  | [], _, i => by simp [reachL]
  | p :: r, h, i => by
    obtain ⟨h1, h2⟩ := List.pairwise_cons.mp h
    unfold reachL
    rw [List.mem_cons, List.mem_cons]
    constructor
    · rintro (rfl | hi)
      · refine ⟨.inl rfl, fun j hj hlt => ?_⟩
        rcases List.mem_cons.mp hj with rfl | hj
        · omega
        · have := h1 j hj; omega
      · split at hi
        · cases hi
        · rename_i hp
          have := (mem_reach_up h2 i).mp hi
          refine ⟨.inr this.1, fun j hj hlt => ?_⟩
          rcases List.mem_cons.mp hj with rfl | hj
          · simpa using hp
          · exact this.2 j hj hlt
    · rintro ⟨rfl | hi, H⟩
      · exact .inl rfl
      · have hp := H p (.head _) (h1 i hi)
        right
        rw [if_neg (by simp [hp])]
        exact (mem_reach_up h2 i).mpr ⟨hi, fun j hj hlt => H j (.tail _ hj) hlt⟩

theorem mem_reach_down {men : Nat} : ∀ {l : List Nat}, l.Pairwise (· > ·) → ∀ i, i ∈ reachL men l ↔ i ∈ l ∧ ∀ j ∈ l, i < j → men.testBit j = false
  | [], _, i => by simp [reachL]
  | p :: r, h, i => by
    obtain ⟨h1, h2⟩ := List.pairwise_cons.mp h
    unfold reachL
    rw [List.mem_cons, List.mem_cons]
    constructor
    · rintro (rfl | hi)
      · refine ⟨.inl rfl, fun j hj hlt => ?_⟩
        rcases List.mem_cons.mp hj with rfl | hj
        · omega
        · have := h1 j hj; omega
      · split at hi
        · cases hi
        · rename_i hp
          have := (mem_reach_down h2 i).mp hi
          refine ⟨.inr this.1, fun j hj hlt => ?_⟩
          rcases List.mem_cons.mp hj with rfl | hj
          · simpa using hp
          · exact this.2 j hj hlt
    · rintro ⟨rfl | hi, H⟩
      · exact .inl rfl
      · have hp := H p (.head _) (h1 i hi)
        right
        rw [if_neg (by simp [hp])]
        exact (mem_reach_down h2 i).mpr ⟨hi, fun j hj hlt => H j (.tail _ hj) hlt⟩

structure Line (sz s : Nat) (U D : List Nat) : Prop where
  up : U.Pairwise (· < ·)
  down : D.Pairwise (· > ·)
  hi : ∀ p ∈ U, s < p ∧ p < sz
  lo : ∀ p ∈ D, p < s
  ok : s < sz

section
variable {sz s : Nat} {U D : List Nat}
theorem Line.nodup (H : Line sz s U D) : (U ++ D).Nodup := by
  rw [List.nodup_append]
  refine ⟨H.up.imp (fun h => Nat.ne_of_lt h), H.down.imp (fun h => Nat.ne_of_gt h), fun a ha b hb => ?_⟩
  have := H.hi a ha
  have := H.lo b hb
  omega
theorem Line.nodup_reach (H : Line sz s U D) (men : Nat) : (reachL men U ++ reachL men D).Nodup := List.Nodup.sublist ((reach_sub men U).append (reach_sub men D)) H.nodup
theorem Line.lt (H : Line sz s U D) : sumB (U ++ D) < 2 ^ sz := sumB_lt H.nodup fun p hp => by
  rcases List.mem_append.mp hp with h | h
  · exact (H.hi p h).2
  · have := H.lo p h; have := H.ok; omega
theorem Line.not_s (H : Line sz s U D) : (sumB (U ++ D)).testBit s = false := by
  rw [tb_sum H.nodup, decide_eq_false_iff_not]
  intro h
  rcases List.mem_append.mp h with h | h
  · have := H.hi s h; omega
  · have := H.lo s h; omega

theorem Line.reach (H : Line sz s U D) (men i : Nat) :
    ((sumB (U ++ D)).testBit i && if s < i then btw (men &&& sumB (U ++ D)) s i else btw (men &&& sumB (U ++ D)) i s) = (sumB (reachL men U) + sumB (reachL men D)).testBit i := by
  rw [← sumB_append, tb_sum (H.nodup_reach men), tb_sum H.nodup, Bool.eq_iff_iff, Bool.and_eq_true, decide_eq_true_eq, decide_eq_true_eq, List.mem_append, List.mem_append, mem_reach_up H.up, mem_reach_down H.down]
  have hand : ∀ j, (men &&& sumB (U ++ D)).testBit j = (men.testBit j && decide (j ∈ U ++ D)) := fun j => by rw [Nat.testBit_and, tb_sum H.nodup]
  by_cases h : s < i
  · rw [if_pos h, btw_iff]
    constructor
    · rintro ⟨hi | hi, hb⟩
      · refine .inl ⟨hi, fun j hj hlt => ?_⟩
        have := hb j (H.hi j hj).1 hlt
        rw [hand] at this
        simpa [hj] using this
      · have := H.lo i hi; omega
    · rintro (⟨hi, hb⟩ | ⟨hi, hb⟩)
      · refine ⟨.inl hi, fun j h1 h2 => ?_⟩
        rw [hand, Bool.and_eq_false_iff]
        by_cases hj : j ∈ U
        · exact .inl (hb j hj h2)
        · right
          rw [decide_eq_false_iff_not, List.mem_append, not_or]
          refine ⟨hj, fun hd => ?_⟩
          have := H.lo j hd; omega
      · have := H.lo i hi; omega
  · rw [if_neg h, btw_iff]
    constructor
    · rintro ⟨hi | hi, hb⟩
      · have := H.hi i hi; omega
      · refine .inr ⟨hi, fun j hj hlt => ?_⟩
        have := hb j hlt (H.lo j hj)
        rw [hand] at this
        simpa [hj] using this
    · rintro (⟨hi, hb⟩ | ⟨hi, hb⟩)
      · have := H.hi i hi; omega
      · refine ⟨.inr hi, fun j h1 h2 => ?_⟩
        rw [hand, Bool.and_eq_false_iff]
        by_cases hj : j ∈ D
        · exact .inl (hb j hj h1)
        · right
          rw [decide_eq_false_iff_not, List.mem_append, not_or]
          refine ⟨fun hd => ?_, hj⟩
          have := H.hi j hd; omega

/-- the first law: both ways at once -/
theorem Line.att (H : Line sz s U D) (men : Nat) : attN sz s (sumB (U ++ D)) men = sumB (reachL men U) + sumB (reachL men D) := by
  apply Nat.eq_of_testBit_eq
  intro i
  rw [tb_att H.lt H.ok H.not_s, H.reach]

/-- the second law: by one difference -/
theorem Line.obs (H : Line sz s U D) {men d above : Nat} (hd1 : 2 ^ d ≤ ((sumB (U ++ D) &&& (2 ^ s - 1)) &&& men) ||| 1) (hd2 : ((sumB (U ++ D) &&& (2 ^ s - 1)) &&& men) ||| 1 < 2 ^ (d + 1))
    (ha : above = (sumB (U ++ D) &&& men) &&& ((2 ^ sz - 1) ^^^ (2 ^ s ||| (2 ^ s - 1)))) : obsN sz (sumB (U ++ D)) (if above = 0 then 0 else above &&& (above ^^^ (above - 1))) d = sumB (reachL men U) + sumB (reachL men D) := by
  have hb : ∀ i, above.testBit i = (((sumB (U ++ D)).testBit i && men.testBit i) && (decide (s < i) && decide (i < sz))) := by
    intro i
    rw [ha, Nat.testBit_and, Nat.testBit_and, Nat.testBit_xor, Nat.testBit_or, Nat.testBit_two_pow_sub_one, Nat.testBit_two_pow_sub_one, Nat.testBit_two_pow]
    congr 1
    have := H.ok
    rw [Bool.eq_iff_iff]
    by_cases h1 : i < sz <;> by_cases h2 : i < s <;> by_cases h3 : s = i <;> simp [h1, h2, h3] <;> omega
  have hl : above < 2 ^ sz := by
    rw [ha]
    exact Nat.lt_of_le_of_lt Nat.and_le_left (Nat.lt_of_le_of_lt Nat.and_le_left H.lt)
  apply Nat.eq_of_testBit_eq
  intro i
  rw [tb_obs H.lt H.ok H.not_s hd1 hd2 hb hl, H.reach]
end
end Mine
end
section
open PySem
namespace Mine

noncomputable abbrev Sm (n : Nat) : Orc := sem glbG fns n

theorem sem_at {n k : Nat} {f : Fn} {args : List V} {m : Mem} (h : fns[k]? = some f) : sem glbG fns (n + 1) k args m = runFn glbG (sem glbG fns n) f args m := by
  simp only [sem, h]

theorem pre_at {m m' : Mem} {i : Nat} {o : O} (p : m <+: m') (h : m[i]? = some o) : m'[i]? = some o := by
  obtain ⟨t, rfl⟩ := p
  rw [List.getElem?_append_left]
  · exact h
  · exact (List.getElem?_eq_some_iff.mp h).1
theorem fields_mono {m m' : Mem} {u : V} {r : Nat × List V} (p : m <+: m') (h : fieldsOf m u = some r) : fieldsOf m' u = some r := by
  unfold fieldsOf at h ⊢
  split at h
  · split at h
    · rename_i d e
      split at h
      · rename_i vs e2
        simp only [pre_at p e, pre_at p e2]
        exact h
      · cases h
    · cases h
  · cases h

noncomputable def fileL (F R : Nat) : List V := (List.range F).map fun f => .int ((sumB ((List.range R).map fun r => r * F + f) : Nat) : Int)
noncomputable def rankL (F R : Nat) : List V := (List.range R).map fun r => .int ((sumB ((List.range F).map fun f => r * F + f) : Nat) : Int)

noncomputable def Geo (g F R : Nat) (m : Mem) : Prop := ∃ d vs f6 f7, fieldsOf m (.ref g) = some (d, vs) ∧ vs[0]? = some (.int (F : Nat)) ∧ vs[1]? = some (.int (R : Nat)) ∧ vs[2]? = some (.int ((F * R : Nat) : Int)) ∧ vs[3]? = some (.int ((2 ^ (F * R) - 1 : Nat) : Int)) ∧
  vs[6]? = some (.ref f6) ∧ vs[7]? = some (.ref f7) ∧ m[f6]? = some (.list (fileL F R)) ∧ m[f7]? = some (.list (rankL F R))

theorem Geo.mono {g F R : Nat} {m m' : Mem} (p : m <+: m') (H : Geo g F R m) : Geo g F R m' := by
  obtain ⟨d, vs, f6, f7, a0, a1, a2, a3, a4, a5, a6, a7, a8⟩ := H
  exact ⟨d, vs, f6, f7, fields_mono p a0, a1, a2, a3, a4, a5, a6, pre_at p a7, pre_at p a8⟩

section
variable {G : Glb} {Γ : Orc} {l : Loc} {g F R x : Nat} {m : Mem}
theorem ev_files (H : Geo g F R m) (h : l[x]? = some (some (.ref g))) : ev G Γ l (.attr (.loc x) 0) m = some (.int (F : Nat), m) := by
  obtain ⟨d, vs, f6, f7, a0, a1, a2, a3, a4, a5, a6, a7, a8⟩ := H
  simp only [ev, h, Option.bind_some, a0, a1]
theorem ev_ranks (H : Geo g F R m) (h : l[x]? = some (some (.ref g))) : ev G Γ l (.attr (.loc x) 1) m = some (.int (R : Nat), m) := by
  obtain ⟨d, vs, f6, f7, a0, a1, a2, a3, a4, a5, a6, a7, a8⟩ := H
  simp only [ev, h, Option.bind_some, a0, a2]
theorem ev_size (H : Geo g F R m) (h : l[x]? = some (some (.ref g))) : ev G Γ l (.attr (.loc x) 2) m = some (.int ((F * R : Nat) : Int), m) := by
  obtain ⟨d, vs, f6, f7, a0, a1, a2, a3, a4, a5, a6, a7, a8⟩ := H
  simp only [ev, h, Option.bind_some, a0, a3]
theorem ev_full (H : Geo g F R m) (h : l[x]? = some (some (.ref g))) : ev G Γ l (.attr (.loc x) 3) m = some (.int ((2 ^ (F * R) - 1 : Nat) : Int), m) := by
  obtain ⟨d, vs, f6, f7, a0, a1, a2, a3, a4, a5, a6, a7, a8⟩ := H
  simp only [ev, h, Option.bind_some, a0, a4]
theorem ev_file {b : E} {f : Nat} (H : Geo g F R m) (h : l[x]? = some (some (.ref g))) (hb : ev G Γ l b m = some (.int (f : Nat), m)) (hf : f < F) (hF : F ≤ 100) :
    ev G Γ l (.idx (.attr (.loc x) 6) b) m = some (.int ((sumB ((List.range R).map fun r => r * F + f) : Nat) : Int), m) := by
  obtain ⟨d, vs, f6, f7, a0, a1, a2, a3, a4, a5, a6, a7, a8⟩ := H
  have hp : place (f : Int) = some f := by
    unfold place
    rw [if_pos]
    · rfl
    · simp only [Bool.and_eq_true, decide_eq_true_eq]; omega
  simp only [ev, h, Option.bind_some, a0, a5] at hb ⊢
  simp only [hb, Option.bind_some, seqOf, a7, hp]
  simp [fileL, hf]
end

theorem int_and (a b : Nat) : band (a : Int) (b : Int) = ((a &&& b : Nat) : Int) := rfl
theorem int_or (a b : Nat) : bor (a : Int) (b : Int) = ((a ||| b : Nat) : Int) := rfl
theorem int_xor (a b : Nat) : bxor (a : Int) (b : Int) = ((a ^^^ b : Nat) : Int) := rfl
theorem p2_nat (n : Nat) : p2 (n : Int) = ((2 ^ n : Nat) : Int) := rfl
theorem small_nat {n : Nat} (h : n < 2 ^ 64) : small (n : Int) = true := by
  unfold small
  rw [Int.natAbs_natCast]
  exact Nat.ble_eq_true_of_le h
theorem shOk_nat {n : Nat} (h : n ≤ 1000) : shOk (n : Int) = true := by
  unfold shOk
  simp only [Bool.and_eq_true, decide_eq_true_eq]
  omega
theorem shl_one {n : Nat} (h : n ≤ 1000) : ibin .shl 1 (n : Int) = some ((2 ^ n : Nat) : Int) := by
  have h1 : (shOk (n : Int) && small 1) = true := by rw [shOk_nat h]; rfl
  simp only [ibin, h1, if_true, p2_nat, Int.one_mul]

theorem subtract_run {n : Nat} {a b f : Int} {m : Mem} : Sm (n + 1) 3 [.int a, .int b, .int f] m = some (.int (band (a + f + 1 - b) f), m) := rfl

theorem subtract_nat {n a b k : Nat} {m : Mem} (h : b ≤ 2 ^ k) : Sm (n + 1) 3 [.int (a : Nat), .int (b : Nat), .int ((2 ^ k - 1 : Nat) : Int)] m = some (.int (((a + 2 ^ k - b) % 2 ^ k : Nat) : Int), m) := by
  rw [subtract_run]
  have hp := Nat.two_pow_pos k
  have e : (a : Int) + ((2 ^ k - 1 : Nat) : Int) + 1 - (b : Int) = ((a + 2 ^ k - b : Nat) : Int) := by omega
  rw [e, int_and, Nat.and_two_pow_sub_one_eq_mod]

/-! a loop over what stays -/
noncomputable def forL (step : V → St → Option (Fl × St)) : List V → St → Option (Fl × St)
  | [], st => some (.next, st)
  | v :: r, st => match step v st with
    | none => none
    | some (.next, st') => forL step r st'
    | some (.ret u, st') => some (.ret u, st')

theorem forS_eq {get : Mem → Option (List V)} {step : V → St → Option (Fl × St)} {items : List V} (P : St → Prop) (hget : ∀ st, P st → get st.2 = some items) (hstep : ∀ v st st', v ∈ items → P st → step v st = some (.next, st') → P st') :
    ∀ (fuel k : Nat) (st : St), P st → items.length + 1 ≤ fuel + k → k ≤ items.length → forS get step fuel k st = forL step (items.drop k) st
  | 0, k, st, hP, hf, hk => by omega
  | fuel + 1, k, st, hP, hf, hk => by
    simp only [forS, hget st hP]
    cases hv : items[k]? with
    | none =>
      have := List.getElem?_eq_none_iff.mp hv
      rw [List.drop_of_length_le this]
      rfl
    | some v =>
      obtain ⟨hlt, he⟩ := List.getElem?_eq_some_iff.mp hv
      rw [List.drop_eq_getElem_cons hlt, he]
      simp only [forL]
      cases hs : step v st with
      | none => rfl
      | some r =>
        obtain ⟨fl, st'⟩ := r
        cases fl with
        | next =>
          dsimp only
          exact forS_eq P hget hstep fuel (k + 1) st' (hstep v st st' (List.mem_of_getElem? hv) hP hs) (by omega) hlt
        | ret u => rfl
theorem forS_const {step : V → St → Option (Fl × St)} {items : List V} {fuel : Nat} {st : St} (h : fuel = items.length + 1) : forS (fun _ => some items) step fuel 0 st = forL step items st := by
  rw [forS_eq (fun _ => True) (fun _ _ => rfl) (fun _ _ _ _ _ _ => trivial) fuel 0 st trivial (by omega) (Nat.zero_le _)]
  rfl

theorem rangeItems_nat (k : Nat) : rangeItems 0 (k : Int) 1 = (List.range k).map fun j => V.int (j : Nat) := by
  have h : (Builtin.Range.rangeSize 0 (k : Int) 1).toNat = k := by
    unfold Builtin.Range.rangeSize
    rw [if_pos (by decide)]
    split
    · rw [Int.ediv_one]; omega
    · omega
  unfold rangeItems
  rw [h]
  congr 1
  funext j
  congr 1
  omega

/-! rules: one a form -/
section
variable {G : Glb} {Γ : Orc} {l l' : Loc} {m m' m1 m2 m3 : Mem}
theorem ev_lit {i : Int} : ev G Γ l (.lit i) m = some (.int i, m) := by simp only [ev]
theorem ev_tt {b : Bool} : ev G Γ l (.tt b) m = some (.bool b, m) := by simp only [ev]
theorem ev_loc {x : Nat} {v : V} (h : l[x]? = some (some v)) : ev G Γ l (.loc x) m = some (v, m) := by simp only [ev, h]
theorem ev_gint {g : Nat} {i : Int} (h : G.gis[g]? = some i) : ev G Γ l (.gint g) m = some (.int i, m) := by simp only [ev, h]
theorem ev_bin {o : Op} {a b : E} {x y z : Int} (ha : ev G Γ l a m = some (.int x, m1)) (hb : ev G Γ l b m1 = some (.int y, m2)) (h : ibin o x y = some z) : ev G Γ l (.bin o a b) m = some (.int z, m2) := by
  simp only [ev, ha, hb, Option.bind_some, vbin, h, Option.map_some]
theorem ev_neg {a : E} {x : Int} (ha : ev G Γ l a m = some (.int x, m1)) : ev G Γ l (.neg a) m = some (.int (-x), m1) := by
  simp only [ev, ha, Option.bind_some]
theorem ev_idx {a b : E} {u : V} {k : Int} {j : Nat} {vs : List V} {v : V} (ha : ev G Γ l a m = some (u, m1)) (hb : ev G Γ l b m1 = some (.int k, m2)) (hs : seqOf m2 u = some vs) (hp : place k = some j) (hv : vs[j]? = some v) :
    ev G Γ l (.idx a b) m = some (v, m2) := by
  simp only [ev, ha, hb, Option.bind_some, hs, hp, hv, Option.map_some]
theorem ev_call {f : Nat} {es : List E} {vs : List V} {r : Option (V × Mem)} (ha : evs G Γ l es m = some (vs, m1)) (hr : Γ f vs m1 = r) : ev G Γ l (.call f es) m = r := by
  simp only [ev, ha, Option.bind_some, hr]
theorem ev_tup {es : List E} {vs : List V} (ha : evs G Γ l es m = some (vs, m1)) (hl : vs.length ≤ 1000) : ev G Γ l (.tup es) m = some (.ref m1.length, m1 ++ [.tup vs]) := by
  simp only [ev, ha, Option.bind_some, if_pos hl]
theorem ev_list {es : List E} {vs : List V} (ha : evs G Γ l es m = some (vs, m1)) (hl : vs.length ≤ 1000) : ev G Γ l (.list es) m = some (.ref m1.length, m1 ++ [.list vs]) := by
  simp only [ev, ha, Option.bind_some, if_pos hl]
theorem ev_range {es : List E} {vs : List V} {o : O} (ha : evs G Γ l es m = some (vs, m1)) (ho : mkRange vs = some o) : ev G Γ l (.range es) m = some (.ref m1.length, m1 ++ [o]) := by
  simp only [ev, ha, Option.bind_some, ho, Option.map_some]
theorem ev_ite_t {c a b : E} {r : Option (V × Mem)} (hc : evT G Γ l c m = some (true, m1)) (h : ev G Γ l a m1 = r) : ev G Γ l (.ite c a b) m = r := by
  simp only [ev, hc, Option.bind_some, if_true, h]
theorem ev_ite_f {c a b : E} {r : Option (V × Mem)} (hc : evT G Γ l c m = some (false, m1)) (h : ev G Γ l b m1 = r) : ev G Γ l (.ite c a b) m = r := by
  simp only [ev, hc, Option.bind_some, Bool.false_eq_true, if_false, h]
theorem evs_nil : evs G Γ l [] m = some ([], m) := by simp only [evs]
theorem evs_cons {e : E} {es : List E} {v : V} {vs : List V} (h : ev G Γ l e m = some (v, m1)) (h2 : evs G Γ l es m1 = some (vs, m2)) : evs G Γ l (e :: es) m = some (v :: vs, m2) := by
  simp only [evs, h, h2, Option.bind_some]
theorem evT_cmp {c : Cm} {a b : E} {x y : Int} {t : Bool} (ha : ev G Γ l a m = some (.int x, m1)) (hb : ev G Γ l b m1 = some (.int y, m2)) (h : icmp c x y = t) : evT G Γ l (.cmp c a b) m = some (t, m2) := by
  simp only [evT, ha, hb, Option.bind_some, vcmp, h, Option.map_some]
theorem evT_bin {o : Op} {a b : E} {x y z : Int} {t : Bool} (ha : ev G Γ l a m = some (.int x, m1)) (hb : ev G Γ l b m1 = some (.int y, m2)) (h : ibin o x y = some z) (ht : (z != 0) = t) : evT G Γ l (.bin o a b) m = some (t, m2) := by
  simp only [evT, ha, hb, Option.bind_some, vbin, h, Option.map_some, truth, ht]
theorem evT_loc {x : Nat} {v : V} {t : Bool} (h : l[x]? = some (some v)) (ht : truth v = some t) : evT G Γ l (.loc x) m = some (t, m) := by
  simp only [evT, h, ht, Option.map_some]
theorem evT_chain {c d : Cm} {a b e : E} {x y z : Int} {t u : Bool} (ha : ev G Γ l a m = some (.int x, m1)) (hb : ev G Γ l b m1 = some (.int y, m2)) (he : ev G Γ l e m2 = some (.int z, m2)) (h : icmp c x y = t) (h2 : icmp d y z = u) :
    evT G Γ l (.chain c d a b e) m = some (t && u, m2) := by
  simp only [evT, ha, hb, he, Option.bind_some, vcmp, h, h2, Option.map_some]
  cases t <;> rfl
theorem evT_and {a b : E} {t u : Bool} (ha : evT G Γ l a m = some (t, m)) (hb : evT G Γ l b m = some (u, m)) : evT G Γ l (.and a b) m = some (t && u, m) := by
  simp only [evT, ha, Option.bind_some, hb]
  cases t <;> rfl
theorem evT_or_f {a b : E} {r : Option (Bool × Mem)} (ha : evT G Γ l a m = some (false, m1)) (hb : evT G Γ l b m1 = r) : evT G Γ l (.or a b) m = r := by
  simp only [evT, ha, Option.bind_some, Bool.false_eq_true, if_false, hb]

theorem setSlot_ok {x : Nat} {v : V} (h : x < l.length) : setSlot l x v = some (l.set x (some v)) := by simp only [setSlot, if_pos h]
theorem ex_asg {x : Nat} {e : E} {v : V} (h : ev G Γ l e m = some (v, m1)) (hx : setSlot l x v = some l') : ex G Γ (.asg x e) (l, m) = some (.next, (l', m1)) := by
  simp only [ex, h, Option.bind_some, hx, Option.map_some]
theorem ex_aug {x : Nat} {o : Op} {e : E} {a b c : Int} (ha : l[x]? = some (some (.int a))) (h : ev G Γ l e m = some (.int b, m1)) (hi : ibin o a b = some c) (hx : setSlot l x (.int c) = some l') : ex G Γ (.aug x o e) (l, m) = some (.next, (l', m1)) := by
  simp only [ex, ha, h, Option.bind_some, vbin, hi, Option.map_some, hx]
theorem ex_ret {e : E} {v : V} (h : ev G Γ l e m = some (v, m1)) : ex G Γ (.ret e) (l, m) = some (.ret v, (l, m1)) := by
  simp only [ex, h, Option.map_some]
theorem ex_ite_t {c : E} {a b : List S} {r : Option (Fl × St)} (h : evT G Γ l c m = some (true, m1)) (h2 : exs G Γ a (l, m1) = r) : ex G Γ (.ite c a b) (l, m) = r := by
  simp only [ex, h, Option.bind_some, if_true, h2]
theorem ex_ite_f {c : E} {a b : List S} {r : Option (Fl × St)} (h : evT G Γ l c m = some (false, m1)) (h2 : exs G Γ b (l, m1) = r) : ex G Γ (.ite c a b) (l, m) = r := by
  simp only [ex, h, Option.bind_some, Bool.false_eq_true, if_false, h2]
theorem ex_while {c : E} {b : List S} {r : Option (Fl × St)} (h : whl (fun st => evT G Γ st.1 c st.2) (exs G Γ b) whileFuel (l, m) = r) : ex G Γ (.while c b) (l, m) = r := by
  simp only [ex, h]
theorem ex_app {a e : E} {j : Nat} {us vs : List V} {v : V} (ha : ev G Γ l a m = some (.ref j, m1)) (hu : m1[j]? = some (.list us)) (he : ev G Γ l e m1 = some (v, m2)) (hv : m2[j]? = some (.list vs)) (hl : vs.length ≤ 1000) :
    ex G Γ (.app a e) (l, m) = some (.next, (l, m2.set j (.list (vs ++ [v])))) := by
  simp only [ex, ha, Option.bind_some, hu, he, hv, if_pos hl]
theorem ex_for_range {x : Nat} {it : E} {b : List S} {i k : Nat} {r : Option (Fl × St)} (h : ev G Γ l it m = some (.ref i, m1)) (hi : m1[i]? = some (.range 0 (k : Int) 1))
    (hl : forL (fun v st => (setSlot st.1 x v).bind fun l => exs G Γ b (l, st.2)) ((List.range k).map fun j => V.int (j : Nat)) (l, m1) = r) : ex G Γ (.for x it b) (l, m) = r := by
  have hlen : (Builtin.Range.rangeSize 0 (k : Int) 1).toNat + 1 = (rangeItems 0 (k : Int) 1).length + 1 := by simp [rangeItems]
  simp only [ex, h, Option.bind_some, hi]
  rw [forS_const hlen, rangeItems_nat, hl]
theorem exs_nil {st : St} : exs G Γ [] st = some (.next, st) := by simp only [exs]
theorem exs_cons {s : S} {ss : List S} {st st' : St} {r : Option (Fl × St)} (h : ex G Γ s st = some (.next, st')) (h2 : exs G Γ ss st' = r) : exs G Γ (s :: ss) st = r := by
  simp only [exs, h, h2]
theorem exs_ret {s : S} {ss : List S} {st st' : St} {v : V} (h : ex G Γ s st = some (.ret v, st')) : exs G Γ (s :: ss) st = some (.ret v, st') := by
  simp only [exs, h]
theorem run_fn {f : Fn} {args : List V} {v : V} {st : St} (hl : args.length = f.params) (h : exs G Γ f.body (args.map some ++ List.replicate (f.slots - f.params) none, m) = some (.ret v, st)) : runFn G Γ f args m = some (v, st.2) := by
  simp only [runFn, hl, beq_self_eq_true, if_true, h]
theorem run_fn0 {f : Fn} {args : List V} {st : St} (hl : args.length = f.params) (h : exs G Γ f.body (args.map some ++ List.replicate (f.slots - f.params) none, m) = some (.next, st)) : runFn G Γ f args m = some (.nul, st.2) := by
  simp only [runFn, hl, beq_self_eq_true, if_true, h]
end

/-! reverse_bits -/
noncomputable abbrev revBody : List S := [.asg 2 (.bin .bor (.bin .shl (.loc 2) (.lit 1)) (.bin .band (.loc 0) (.lit 1))), .aug 0 .shr (.lit 1)]
theorem rev_step {Γ : Orc} {b out j sz : Nat} {x : Option V} {m : Mem} (h : out < 2 ^ 63) :
    (setSlot [some (.int (b : Nat)), some (.int (sz : Nat)), some (.int (out : Nat)), x] 3 (.int (j : Nat))).bind (fun l => exs glbG Γ revBody (l, m)) =
    some (.next, ([some (.int ((b / 2 : Nat) : Int)), some (.int (sz : Nat)), some (.int (((out * 2) ||| (b &&& 1) : Nat) : Int)), some (.int (j : Nat))], m)) := by
  have h1 : ibin .shl (out : Int) 1 = some ((out * 2 : Nat) : Int) := by
    have : (shOk 1 && small (out : Int)) = true := by rw [small_nat (by omega)]; rfl
    simp only [ibin, this, if_true]
    rw [show p2 1 = ((2 : Nat) : Int) from rfl, ← Int.natCast_mul]
  have h2 : ibin .shr (b : Int) 1 = some ((b / 2 : Nat) : Int) := by
    simp only [ibin, show shOk 1 = true from rfl, if_true]
    rw [show p2 1 = ((2 : Nat) : Int) from rfl, ← Int.ofNat_fdiv]
  rw [setSlot_ok (by simp), Option.bind_some]
  exact exs_cons (ex_asg (ev_bin (ev_bin (ev_loc rfl) ev_lit h1) (ev_bin (ev_loc rfl) ev_lit rfl) rfl) rfl) (exs_cons (ex_aug rfl ev_lit h2 rfl) exs_nil)

theorem rev_loop {Γ : Orc} {sz : Nat} {m : Mem} : ∀ (ks : List Nat) (b out w : Nat) (x : Option V), out < 2 ^ w → w + ks.length ≤ 60 →
    ∃ y, forL (fun v st => (setSlot st.1 3 v).bind fun l => exs glbG Γ revBody (l, st.2)) (ks.map fun j => V.int (j : Nat)) ([some (.int (b : Nat)), some (.int (sz : Nat)), some (.int (out : Nat)), x], m) =
      some (.next, ([some (.int ((b / 2 ^ ks.length : Nat) : Int)), some (.int (sz : Nat)), some (.int ((rev ks.length b out : Nat) : Int)), y], m))
  | [], b, out, w, x, h, hl => ⟨x, by simp [forL, rev]⟩
  | k :: ks, b, out, w, x, h, hl => by
    have hlt : out < 2 ^ 63 := Nat.lt_of_lt_of_le h (Nat.pow_le_pow_right (by decide) (by simp at hl; omega))
    have h1 : (out * 2) ||| (b &&& 1) < 2 ^ (w + 1) := by
      apply Nat.or_lt_two_pow
      · rw [Nat.pow_succ]; omega
      · have : b &&& 1 ≤ 1 := Nat.and_le_right
        have := Nat.one_lt_two_pow (n := w + 1) (by omega)
        omega
    obtain ⟨y, hy⟩ := rev_loop (Γ := Γ) (sz := sz) (m := m) ks (b / 2) ((out * 2) ||| (b &&& 1)) (w + 1) (some (.int (k : Nat))) h1 (by simp at hl ⊢; omega)
    refine ⟨y, ?_⟩
    rw [List.map_cons, forL]
    dsimp only
    rw [rev_step hlt]
    have e : b / 2 ^ (ks.length + 1) = b / 2 / 2 ^ ks.length := by rw [Nat.pow_succ, Nat.mul_comm (2 ^ ks.length) 2, Nat.div_div_eq_div_mul]
    rw [List.length_cons, e]
    exact hy

theorem range_nat {k : Nat} (h : k ≤ 1000) : mkRange [.int (k : Int)] = some (.range 0 k 1) := by
  have hr : rangeOk 0 (k : Int) 1 = true := by
    simp only [rangeOk, Bool.and_eq_true, Bool.or_eq_true, beq_iff_eq]
    refine ⟨⟨rfl, ?_⟩, .inl (.inl trivial)⟩
    rw [Int.natAbs_natCast]
    exact Nat.ble_eq_true_of_le (by omega)
  simp only [mkRange, hr, if_true]

theorem last_at {m : Mem} {o : O} : (m ++ [o])[m.length]? = some o := by simp

theorem reverse_run {n b sz : Nat} {m : Mem} (hs : sz ≤ 60) : Sm (n + 1) 1 [.int (b : Nat), .int (sz : Nat)] m = some (.int ((rev sz b 0 : Nat) : Int), m ++ [.range 0 sz 1]) := by
  show sem glbG fns (n + 1) 1 _ m = _
  rw [sem_at (f := fReverseBits) rfl]
  obtain ⟨y, hy⟩ := rev_loop (Γ := sem glbG fns n) (sz := sz) (m := m ++ [.range 0 sz 1]) (List.range sz) b 0 0 none (by decide) (by simpa using hs)
  rw [List.length_range] at hy
  exact run_fn rfl (st := (_, _)) (exs_cons (ex_asg ev_lit rfl) (exs_cons (ex_for_range (ev_range (evs_cons (ev_loc rfl) evs_nil) (range_nat (by omega))) last_at hy) (exs_ret (ex_ret (ev_loc rfl)))))
end Mine
end
section
open PySem
namespace Mine

theorem whl_f {test : St → Option (Bool × Mem)} {body : St → Option (Fl × St)} {n : Nat} {st : St} {m : Mem} (h : test st = some (false, m)) : whl test body (n + 1) st = some (.next, (st.1, m)) := by
  simp only [whl, h]
theorem whl_t {test : St → Option (Bool × Mem)} {body : St → Option (Fl × St)} {n : Nat} {st st' : St} {m : Mem} {r : Option (Fl × St)} (h : test st = some (true, m)) (hb : body (st.1, m) = some (.next, st')) (hr : whl test body n st' = r) : whl test body (n + 1) st = r := by
  simp only [whl, h, hb, hr]

theorem ishr {a n : Nat} (h : n ≤ 1000) : ibin .shr (a : Int) (n : Int) = some ((a / 2 ^ n : Nat) : Int) := by
  simp only [ibin, shOk_nat h, if_true]
  rw [p2_nat, ← Int.ofNat_fdiv]
theorem imul2 {a : Nat} (h : a < 2 ^ 64) : ibin .mul (a : Int) 2 = some ((a * 2 : Nat) : Int) := by
  simp only [ibin, small_nat h, if_true, Int.natCast_mul]
  rfl
theorem ifdiv2 {a : Nat} : ibin .fdiv (a : Int) 2 = some ((a / 2 : Nat) : Int) := by
  have : ((2 : Int) != 0 && small 2) = true := rfl
  simp only [ibin, this, if_true, Int.ofNat_fdiv]
  rfl

theorem pow6 {k : Nat} (h : k ≤ 6) : 2 ^ k ≤ 64 := by
  have := Nat.pow_le_pow_right (show 0 < 2 by decide) h
  exact this

theorem high_loop1 {Γ : Orc} {b : Nat} {y : Option V} {m : Mem} (hb : b < 2 ^ 64) : ∀ (j k fuel : Nat), k + j = 6 → j + 1 ≤ fuel →
    ∃ K, K ≤ 6 ∧ b < 2 ^ 2 ^ K ∧ whl (fun st => evT glbG Γ st.1 (.bin .shr (.loc 0) (.loc 1)) st.2) (exs glbG Γ [.aug 1 .mul (.lit 2)]) fuel ([some (.int (b : Nat)), some (.int ((2 ^ k : Nat) : Int)), y], m) = some (.next, ([some (.int (b : Nat)), some (.int ((2 ^ K : Nat) : Int)), y], m)) := by
  intro j
  induction j with
  | zero =>
    intro k fuel hk hf
    have : k = 6 := by omega
    subst this
    obtain ⟨f', rfl⟩ : ∃ f', fuel = f' + 1 := ⟨fuel - 1, by omega⟩
    refine ⟨6, Nat.le_refl _, hb, whl_f (evT_bin (ev_loc rfl) (ev_loc rfl) (ishr (by decide)) ?_)⟩
    have : b / 2 ^ 2 ^ 6 = 0 := Nat.div_eq_of_lt hb
    rw [this]; rfl
  | succ j ih =>
    intro k fuel hk hf
    obtain ⟨f', rfl⟩ : ∃ f', fuel = f' + 1 := ⟨fuel - 1, by omega⟩
    have h64 := pow6 (k := k) (by omega)
    by_cases h0 : b / 2 ^ 2 ^ k = 0
    · refine ⟨k, by omega, ?_, whl_f (evT_bin (ev_loc rfl) (ev_loc rfl) (ishr (by omega)) ?_)⟩
      · rcases Nat.lt_or_ge b (2 ^ 2 ^ k) with h | h
        · exact h
        · have := Nat.div_pos h (Nat.two_pow_pos _); omega
      · rw [h0]; rfl
    · obtain ⟨K, h1, h2, h3⟩ := ih (k + 1) f' (by omega) (by omega)
      refine ⟨K, h1, h2, whl_t (evT_bin (ev_loc rfl) (ev_loc rfl) (ishr (by omega)) ?_) (exs_cons (ex_aug rfl ev_lit (imul2 (by omega)) rfl) exs_nil) ?_⟩
      · simp only [bne_iff_ne, ne_eq]; omega
      · rw [← Nat.pow_succ]; exact h3

theorem high_loop2 {Γ : Orc} {m : Mem} : ∀ (K b s fuel : Nat), K ≤ 6 → 1 ≤ b → b < 2 ^ 2 ^ K → K + 1 ≤ fuel →
    ∃ r b', 2 ^ r ≤ b ∧ b < 2 ^ (r + 1) ∧ whl (fun st => evT glbG Γ st.1 (.cmp .gt (.loc 1) (.lit 1)) st.2) (exs glbG Γ [.aug 1 .fdiv (.lit 2), .ite (.bin .shr (.loc 0) (.loc 1)) [.aug 0 .shr (.loc 1), .aug 2 .add (.loc 1)] []]) fuel
      ([some (.int (b : Nat)), some (.int ((2 ^ K : Nat) : Int)), some (.int (s : Nat))], m) = some (.next, ([some (.int (b' : Nat)), some (.int 1), some (.int ((s + r : Nat) : Int))], m)) := by
  intro K
  induction K with
  | zero =>
    intro b s fuel hK h1 h2 hf
    obtain ⟨f', rfl⟩ : ∃ f', fuel = f' + 1 := ⟨fuel - 1, by omega⟩
    have hb : b = 1 := by simp at h2; omega
    subst hb
    exact ⟨0, 1, by decide, by decide, whl_f (evT_cmp (ev_loc rfl) ev_lit rfl)⟩
  | succ K ih =>
    intro b s fuel hK h1 h2 hf
    obtain ⟨f', rfl⟩ : ∃ f', fuel = f' + 1 := ⟨fuel - 1, by omega⟩
    have h64 := pow6 (k := K) (by omega)
    have hgt : icmp .gt ((2 ^ (K + 1) : Nat) : Int) 1 = true := by
      have := Nat.one_lt_two_pow (n := K + 1) (by omega)
      simp only [icmp, decide_eq_true_eq]; omega
    have hhalf : ibin .fdiv ((2 ^ (K + 1) : Nat) : Int) 2 = some ((2 ^ K : Nat) : Int) := by
      rw [ifdiv2, Nat.pow_succ, Nat.mul_div_cancel _ (by decide)]
    have hsq : 2 ^ 2 ^ (K + 1) = 2 ^ 2 ^ K * 2 ^ 2 ^ K := by rw [← Nat.pow_add]; congr 1; rw [Nat.pow_succ]; omega
    by_cases h0 : b / 2 ^ 2 ^ K = 0
    · have hb : b < 2 ^ 2 ^ K := by
        rcases Nat.lt_or_ge b (2 ^ 2 ^ K) with h | h
        · exact h
        · have := Nat.div_pos h (Nat.two_pow_pos _); omega
      obtain ⟨r, b', q1, q2, q3⟩ := ih b s f' (by omega) h1 hb (by omega)
      refine ⟨r, b', q1, q2, whl_t (evT_cmp (ev_loc rfl) ev_lit hgt) (exs_cons (ex_aug rfl ev_lit hhalf rfl) (exs_cons (ex_ite_f (evT_bin (ev_loc rfl) (ev_loc rfl) (ishr (by omega)) (by rw [h0]; rfl)) exs_nil) exs_nil)) q3⟩
    · have hlt : b / 2 ^ 2 ^ K < 2 ^ 2 ^ K := by rw [Nat.div_lt_iff_lt_mul (Nat.two_pow_pos _), ← hsq]; exact h2
      obtain ⟨r, b', q1, q2, q3⟩ := ih (b / 2 ^ 2 ^ K) (s + 2 ^ K) f' (by omega) (Nat.pos_of_ne_zero h0) hlt (by omega)
      refine ⟨2 ^ K + r, b', ?_, ?_, whl_t (evT_cmp (ev_loc rfl) ev_lit hgt) (exs_cons (ex_aug rfl ev_lit hhalf rfl) (exs_cons (ex_ite_t (evT_bin (ev_loc rfl) (ev_loc rfl) (ishr (by omega)) (by simp only [bne_iff_ne, ne_eq]; omega))
        (exs_cons (ex_aug rfl (ev_loc rfl) (ishr (by omega)) rfl) (exs_cons (ex_aug rfl (ev_loc rfl) rfl rfl) exs_nil))) exs_nil)) ?_⟩
      · rw [Nat.pow_add, Nat.mul_comm]
        exact Nat.le_trans (Nat.mul_le_mul_right _ q1) (Nat.div_mul_le_self _ _)
      · rw [show 2 ^ K + r + 1 = (r + 1) + 2 ^ K by omega, Nat.pow_add, ← Nat.div_lt_iff_lt_mul (Nat.two_pow_pos _)]
        exact q2
      · rw [← Nat.add_assoc]; exact q3

theorem highest_run {n b : Nat} {m : Mem} (h1 : 1 ≤ b) (h2 : b < 2 ^ 64) : ∃ r : Nat, 2 ^ r ≤ b ∧ b < 2 ^ (r + 1) ∧ Sm (n + 1) 0 [.int (b : Nat)] m = some (.int (r : Nat), m) := by
  obtain ⟨K, k1, k2, k3⟩ := high_loop1 (Γ := sem glbG fns n) (y := none) (m := m) h2 6 0 whileFuel rfl (by decide)
  obtain ⟨r, b', r1, r2, r3⟩ := high_loop2 (Γ := sem glbG fns n) (m := m) K b 0 whileFuel k1 h1 k2 (by unfold whileFuel; omega)
  refine ⟨r, r1, r2, ?_⟩
  show sem glbG fns (n + 1) 0 _ m = _
  rw [sem_at (f := fHighest) rfl]
  have hne : icmp .eq (b : Int) 0 = false := by simp only [icmp, beq_eq_false_iff_ne]; omega
  rw [Nat.zero_add] at r3
  exact run_fn rfl (st := (_, _)) (exs_cons (ex_ite_f (evT_cmp (ev_loc rfl) ev_lit hne) exs_nil) (exs_cons (ex_asg ev_lit rfl) (exs_cons (ex_while k3) (exs_cons (ex_asg ev_lit rfl) (exs_cons (ex_while r3) (exs_ret (ex_ret (ev_loc rfl))))))))

theorem line_attacks_run {n g F R sq mask men : Nat} {m : Mem} (H : Geo g F R m) (hz : F * R ≤ 60) (hs : sq < F * R) :
    ∃ m', Sm (n + 2) 4 [.ref g, .int (sq : Nat), .int (mask : Nat), .int (men : Nat)] m = some (.int ((attN (F * R) sq mask men : Nat) : Int), m') ∧ m <+: m' := by
  refine ⟨m ++ [.range 0 ((F * R : Nat) : Int) 1] ++ [.range 0 ((F * R : Nat) : Int) 1], ?_, by rw [List.append_assoc]; exact List.prefix_append _ _⟩
  show sem glbG fns (n + 1 + 1) 4 _ m = _
  rw [sem_at (f := fLineAttacks) rfl]
  have H1 : Geo g F R (m ++ [.range 0 ((F * R : Nat) : Int) 1]) := H.mono (List.prefix_append _ _)
  have e1 : ((F * R : Nat) : Int) - 1 - (sq : Int) = ((F * R - 1 - sq : Nat) : Int) := by omega
  have hp : 2 ^ sq ≤ 2 ^ (F * R) := Nat.pow_le_pow_right (by decide) (by omega)
  have hp' : 2 ^ (F * R - 1 - sq) ≤ 2 ^ (F * R) := Nat.pow_le_pow_right (by decide) (by omega)
  have hsh : ibin .shl 1 (((F * R : Nat) : Int) - 1 - (sq : Int)) = some ((2 ^ (F * R - 1 - sq) : Nat) : Int) := by rw [e1]; exact shl_one (by omega)
  exact run_fn rfl (st := (_, _)) (
    exs_cons (ex_asg (ev_bin ev_lit (ev_loc rfl) (shl_one (by omega))) rfl) (
    exs_cons (ex_asg (ev_bin (ev_loc rfl) (ev_loc rfl) rfl) rfl) (
    exs_cons (ex_asg (ev_call (evs_cons (ev_loc rfl) (evs_cons (ev_loc rfl) (evs_cons (ev_full H rfl) evs_nil))) (subtract_nat hp)) rfl) (
    exs_cons (ex_asg (ev_call (evs_cons (ev_loc rfl) (evs_cons (ev_size H rfl) evs_nil)) (reverse_run hz)) rfl) (
    exs_cons (ex_asg (ev_call (evs_cons (ev_loc rfl) (evs_cons (ev_bin ev_lit (ev_bin (ev_bin (ev_size H1 rfl) ev_lit rfl) (ev_loc rfl) rfl) hsh) (evs_cons (ev_full H1 rfl) evs_nil))) (subtract_nat hp')) rfl) (
    exs_ret (ex_ret (ev_bin (ev_bin (ev_loc rfl) (ev_call (evs_cons (ev_loc rfl) (evs_cons (ev_size H1 rfl) evs_nil)) (reverse_run hz)) rfl) (ev_loc rfl) rfl))))))))
end Mine
end
section
open PySem
namespace Mine

noncomputable def seenN (men : Nat) (U D : List Nat) : Nat := sumB (reachL men U) + sumB (reachL men D)

theorem pow_lt_of {d k x : Nat} (h1 : 2 ^ d ≤ x) (h2 : x < 2 ^ k) : d < k := by
  rcases Nat.lt_or_ge d k with h | h
  · exact h
  · have := Nat.pow_le_pow_right (show 0 < 2 by decide) h
    omega

theorem obstruction_run {n g F R sq men : Nat} {U D : List Nat} {m : Mem} (H : Geo g F R m) (hz : F * R ≤ 60) (HL : Line (F * R) sq U D) :
    Sm (n + 2) 5 [.ref g, .int (sq : Nat), .int ((sumB (U ++ D) : Nat) : Int), .int (men : Nat)] m = some (.int ((seenN men U D : Nat) : Int), m) := by
  have hs := HL.ok
  have hp0 : 0 < 2 ^ sq := Nat.two_pow_pos sq
  have hpz : 2 ^ sq ≤ 2 ^ (F * R) := Nat.pow_le_pow_right (by decide) (by omega)
  generalize hmk : sumB (U ++ D) = mask
  have hmlt : mask < 2 ^ (F * R) := hmk ▸ HL.lt
  have hbl : ((mask &&& (2 ^ sq - 1)) &&& men) ||| 1 < 2 ^ (F * R) := by
    apply Nat.or_lt_two_pow
    · exact Nat.lt_of_le_of_lt Nat.and_le_left (Nat.lt_of_le_of_lt Nat.and_le_left hmlt)
    · exact Nat.one_lt_two_pow (by omega)
  have hb1 : 1 ≤ ((mask &&& (2 ^ sq - 1)) &&& men) ||| 1 := Nat.right_le_or
  have hz64 : 2 ^ (F * R) ≤ 2 ^ 60 := Nat.pow_le_pow_right (by decide) hz
  obtain ⟨d, d1, d2, d3⟩ := highest_run (n := n) (m := m) hb1 (by omega)
  have hd : d < F * R := pow_lt_of d1 hbl
  have hdz : 2 ^ d ≤ 2 ^ (F * R) := Nat.pow_le_pow_right (by decide) (by omega)
  have fin := HL.obs (men := men) (d := d) (by rw [hmk]; exact d1) (by rw [hmk]; exact d2) rfl
  rw [hmk] at fin
  show sem glbG fns (n + 1 + 1) 5 _ m = _
  rw [sem_at (f := fObstruction) rfl]
  have e1 : ibin .sub ((2 ^ sq : Nat) : Int) 1 = some ((2 ^ sq - 1 : Nat) : Int) := by
    simp only [ibin, Option.some.injEq]; omega
  have e2 : ∀ x : Nat, ibin .mul 2 (x : Int) = some ((2 * x : Nat) : Int) := by
    intro x
    simp only [ibin, show small 2 = true from rfl, if_true, Int.natCast_mul]
    rfl
  generalize hab : (mask &&& men) &&& ((2 ^ (F * R) - 1) ^^^ (2 ^ sq ||| (2 ^ sq - 1))) = above at fin
  have hband : ibin .band ((mask &&& men : Nat) : Int) (((2 ^ (F * R) - 1) ^^^ (2 ^ sq ||| (2 ^ sq - 1)) : Nat) : Int) = some (above : Int) := by rw [← hab]; rfl
  have hsub : Sm (n + 1) 3 [.int ((2 * (if above = 0 then 0 else above &&& (above ^^^ (above - 1))) : Nat) : Int), .int ((2 ^ d : Nat) : Int), .int ((2 ^ (F * R) - 1 : Nat) : Int)] m =
      some (.int (((2 * (if above = 0 then 0 else above &&& (above ^^^ (above - 1))) + 2 ^ (F * R) - 2 ^ d) % 2 ^ (F * R) : Nat) : Int), m) := subtract_nat hdz
  have hhigh : ∀ l : Loc, l[6]? = some (some (.int (above : Nat))) → ev glbG (sem glbG fns (n + 1)) l (.ite (.loc 6) (.bin .band (.loc 6) (.bin .bxor (.loc 6) (.bin .sub (.loc 6) (.lit 1)))) (.lit 0)) m = some (.int ((if above = 0 then 0 else above &&& (above ^^^ (above - 1)) : Nat) : Int), m) := by
    intro l hl
    by_cases h0 : above = 0
    · rw [if_pos h0]
      exact ev_ite_f (evT_loc hl (by rw [h0]; rfl)) ev_lit
    · rw [if_neg h0]
      have e3 : ibin .sub (above : Int) 1 = some ((above - 1 : Nat) : Int) := by
        simp only [ibin, Option.some.injEq]; omega
      refine ev_ite_t (evT_loc hl ?_) (ev_bin (ev_loc hl) (ev_bin (ev_loc hl) (ev_bin (ev_loc hl) ev_lit e3) rfl) rfl)
      simp only [truth, Option.some.injEq, bne_iff_ne, ne_eq]
      omega
  have main : Sm (n + 2) 5 [.ref g, .int (sq : Nat), .int (mask : Nat), .int (men : Nat)] m = some (.int ((obsN (F * R) mask (if above = 0 then 0 else above &&& (above ^^^ (above - 1))) d : Nat) : Int), m) := by
    show sem glbG fns (n + 1 + 1) 5 _ m = _
    rw [sem_at (f := fObstruction) rfl]
    exact run_fn rfl (st := (_, _)) (
      exs_cons (ex_asg (ev_bin ev_lit (ev_loc rfl) (shl_one (by omega))) rfl) (
      exs_cons (ex_asg (ev_bin (ev_bin (ev_loc rfl) (ev_bin (ev_loc rfl) ev_lit e1) rfl) (ev_loc rfl) rfl) rfl) (
      exs_cons (ex_asg (ev_bin (ev_bin (ev_loc rfl) (ev_loc rfl) rfl) (ev_bin (ev_full H rfl) (ev_bin (ev_loc rfl) (ev_bin (ev_loc rfl) ev_lit e1) rfl) rfl) hband) rfl) (
      exs_cons (ex_asg (ev_bin ev_lit (ev_call (evs_cons (ev_bin (ev_loc rfl) ev_lit rfl) evs_nil) d3) (shl_one (by omega))) rfl) (
      exs_cons (ex_asg (hhigh _ rfl) rfl) (
      exs_ret (ex_ret (ev_bin (ev_call (evs_cons (ev_bin ev_lit (ev_loc rfl) (e2 _)) (evs_cons (ev_loc rfl) (evs_cons (ev_full H rfl) evs_nil))) hsub) (ev_loc rfl) rfl))))))))
  rw [fin] at main
  exact main

/-! line_masks -/
noncomputable def lmR (F rank file : Nat) (a other : Nat) : Nat := if rank ≤ file + other ∧ file + other - rank < F then a ||| 2 ^ (other * F + (file + other - rank)) else a
noncomputable def lmL (F rank file : Nat) (a other : Nat) : Nat := if other ≤ file + rank ∧ file + rank - other < F then a ||| 2 ^ (other * F + (file + rank - other)) else a

noncomputable def lineM (F R sq k : Nat) : Nat :=
  (match k with
    | 0 => sumB ((List.range F).map fun f => sq / F * F + f)
    | 1 => sumB ((List.range R).map fun r => r * F + sq % F)
    | 2 => (List.range R).foldl (lmR F (sq / F) (sq % F)) 0
    | _ => (List.range R).foldl (lmL F (sq / F) (sq % F)) 0) ^^^ 2 ^ sq

theorem ev_rank {G : Glb} {Γ : Orc} {l : Loc} {g F R x : Nat} {m : Mem} {b : E} {r : Nat} (H : Geo g F R m) (h : l[x]? = some (some (.ref g))) (hb : ev G Γ l b m = some (.int (r : Nat), m)) (hr : r < R) (hR : R ≤ 100) :
    ev G Γ l (.idx (.attr (.loc x) 7) b) m = some (.int ((sumB ((List.range F).map fun f => r * F + f) : Nat) : Int), m) := by
  obtain ⟨d, vs, f6, f7, a0, a1, a2, a3, a4, a5, a6, a7, a8⟩ := H
  have hp : place (r : Int) = some r := by
    unfold place
    rw [if_pos]
    · rfl
    · simp only [Bool.and_eq_true, decide_eq_true_eq]; omega
  simp only [ev, h, Option.bind_some, a0, a6] at hb ⊢
  simp only [hb, Option.bind_some, seqOf, a8, hp]
  simp [rankL, hr]

noncomputable abbrev lmBody : List S := [
    .asg 8 (.bin .sub (.bin .add (.loc 4) (.loc 7)) (.loc 3)),
    .asg 9 (.bin .sub (.bin .add (.loc 4) (.loc 3)) (.loc 7)),
    .ite (.chain .le .lt (.lit 0) (.loc 8) (.attr (.loc 0) 0)) [
      .aug 5 .bor (.bin .shl (.lit 1) (.bin .add (.bin .mul (.loc 7) (.attr (.loc 0) 0)) (.loc 8)))] [],
    .ite (.chain .le .lt (.lit 0) (.loc 9) (.attr (.loc 0) 0)) [
      .aug 6 .bor (.bin .shl (.lit 1) (.bin .add (.bin .mul (.loc 7) (.attr (.loc 0) 0)) (.loc 9)))] []]

theorem imul_nat {a b : Nat} (h : a < 2 ^ 64) : ibin .mul (a : Int) (b : Int) = some ((a * b : Nat) : Int) := by
  simp only [ibin, small_nat h, if_true, Int.natCast_mul]

theorem lm_step {Γ : Orc} {g F R sq bit rank file a b j : Nat} {x y z : Option V} {m : Mem} (H : Geo g F R m) (hF : F ≤ 10) (hj : j ≤ 10) (hrk : rank ≤ 20) (hfl : file ≤ 20) :
    ∃ y' z', (setSlot [some (.ref g), some (.int (sq : Nat)), some (.int (bit : Nat)), some (.int (rank : Nat)), some (.int (file : Nat)), some (.int (a : Nat)), some (.int (b : Nat)), x, y, z] 7 (.int (j : Nat))).bind (fun l => exs glbG Γ lmBody (l, m)) =
    some (.next, ([some (.ref g), some (.int (sq : Nat)), some (.int (bit : Nat)), some (.int (rank : Nat)), some (.int (file : Nat)), some (.int ((lmR F rank file a j : Nat) : Int)), some (.int ((lmL F rank file b j : Nat) : Int)), some (.int (j : Nat)), y', z'], m)) := by
  refine ⟨some (.int ((file : Int) + j - rank)), some (.int ((file : Int) + rank - j)), ?_⟩
  rw [setSlot_ok (by simp), Option.bind_some]
  have hmul : ibin .mul (j : Int) (F : Int) = some ((j * F : Nat) : Int) := imul_nat (by omega)
  have hjF : j * F ≤ 100 := Nat.mul_le_mul hj hF
  refine exs_cons (ex_asg (ev_bin (ev_bin (ev_loc rfl) (ev_loc rfl) rfl) (ev_loc rfl) rfl) rfl) (exs_cons (ex_asg (ev_bin (ev_bin (ev_loc rfl) (ev_loc rfl) rfl) (ev_loc rfl) rfl) rfl) ?_)
  have key1 : ∀ st' r, (exs glbG Γ [.ite (.chain .le .lt (.lit 0) (.loc 9) (.attr (.loc 0) 0)) [.aug 6 .bor (.bin .shl (.lit 1) (.bin .add (.bin .mul (.loc 7) (.attr (.loc 0) 0)) (.loc 9)))] []] st' = r) →
      st' = ([some (.ref g), some (.int (sq : Nat)), some (.int (bit : Nat)), some (.int (rank : Nat)), some (.int (file : Nat)), some (.int ((lmR F rank file a j : Nat) : Int)), some (.int (b : Nat)), some (.int (j : Nat)), some (.int ((file : Int) + j - rank)), some (.int ((file : Int) + rank - j))], m) →
      exs glbG Γ [.ite (.chain .le .lt (.lit 0) (.loc 8) (.attr (.loc 0) 0)) [.aug 5 .bor (.bin .shl (.lit 1) (.bin .add (.bin .mul (.loc 7) (.attr (.loc 0) 0)) (.loc 8)))] [], .ite (.chain .le .lt (.lit 0) (.loc 9) (.attr (.loc 0) 0)) [.aug 6 .bor (.bin .shl (.lit 1) (.bin .add (.bin .mul (.loc 7) (.attr (.loc 0) 0)) (.loc 9)))] []]
        ([some (.ref g), some (.int (sq : Nat)), some (.int (bit : Nat)), some (.int (rank : Nat)), some (.int (file : Nat)), some (.int (a : Nat)), some (.int (b : Nat)), some (.int (j : Nat)), some (.int ((file : Int) + j - rank)), some (.int ((file : Int) + rank - j))], m) = r := by
    intro st' r hr hst
    subst hst
    by_cases hc : rank ≤ file + j ∧ file + j - rank < F
    · have t1 : icmp .le 0 ((file : Int) + j - rank) = true := by simp only [icmp, decide_eq_true_eq]; omega
      have t2 : icmp .lt ((file : Int) + j - rank) (F : Int) = true := by simp only [icmp, decide_eq_true_eq]; omega
      have t3 : ibin .shl 1 (((j * F : Nat) : Int) + ((file : Int) + j - rank)) = some ((2 ^ (j * F + (file + j - rank)) : Nat) : Int) := by
        rw [show ((j * F : Nat) : Int) + ((file : Int) + j - rank) = ((j * F + (file + j - rank) : Nat) : Int) by omega]
        exact shl_one (by omega)
      have ht := evT_chain (G := glbG) (Γ := Γ) (m := m) (l := [some (.ref g), some (.int (sq : Nat)), some (.int (bit : Nat)), some (.int (rank : Nat)), some (.int (file : Nat)), some (.int (a : Nat)), some (.int (b : Nat)), some (.int (j : Nat)), some (.int ((file : Int) + j - rank)), some (.int ((file : Int) + rank - j))]) ev_lit (ev_loc (x := 8) rfl) (ev_files (x := 0) H rfl) t1 t2
      refine exs_cons (ex_ite_t ht (exs_cons (ex_aug rfl (ev_bin ev_lit (ev_bin (ev_bin (ev_loc rfl) (ev_files H rfl) hmul) (ev_loc rfl) rfl) t3) rfl rfl) exs_nil)) ?_
      rw [show lmR F rank file a j = a ||| 2 ^ (j * F + (file + j - rank)) from if_pos hc] at hr
      exact hr
    · have hf : (icmp .le 0 ((file : Int) + j - rank) && icmp .lt ((file : Int) + j - rank) (F : Int)) = false := by
        rw [Bool.and_eq_false_iff]
        simp only [icmp, decide_eq_false_iff_not]
        omega
      have ht := evT_chain (G := glbG) (Γ := Γ) (m := m) (l := [some (.ref g), some (.int (sq : Nat)), some (.int (bit : Nat)), some (.int (rank : Nat)), some (.int (file : Nat)), some (.int (a : Nat)), some (.int (b : Nat)), some (.int (j : Nat)), some (.int ((file : Int) + j - rank)), some (.int ((file : Int) + rank - j))]) (c := .le) (d := .lt) (ev_lit (i := 0)) (ev_loc (x := 8) rfl) (ev_files (x := 0) H rfl) rfl rfl
      rw [hf] at ht
      rw [show lmR F rank file a j = a from if_neg hc] at hr
      exact exs_cons (ex_ite_f ht exs_nil) hr
  refine key1 _ _ ?_ rfl
  by_cases hc : j ≤ file + rank ∧ file + rank - j < F
  · have t1 : icmp .le 0 ((file : Int) + rank - j) = true := by simp only [icmp, decide_eq_true_eq]; omega
    have t2 : icmp .lt ((file : Int) + rank - j) (F : Int) = true := by simp only [icmp, decide_eq_true_eq]; omega
    have t3 : ibin .shl 1 (((j * F : Nat) : Int) + ((file : Int) + rank - j)) = some ((2 ^ (j * F + (file + rank - j)) : Nat) : Int) := by
      rw [show ((j * F : Nat) : Int) + ((file : Int) + rank - j) = ((j * F + (file + rank - j) : Nat) : Int) by omega]
      exact shl_one (by omega)
    have ht := evT_chain (G := glbG) (Γ := Γ) (m := m) (l := [some (.ref g), some (.int (sq : Nat)), some (.int (bit : Nat)), some (.int (rank : Nat)), some (.int (file : Nat)), some (.int ((lmR F rank file a j : Nat) : Int)), some (.int (b : Nat)), some (.int (j : Nat)), some (.int ((file : Int) + j - rank)), some (.int ((file : Int) + rank - j))]) ev_lit (ev_loc (x := 9) rfl) (ev_files (x := 0) H rfl) t1 t2
    rw [show lmL F rank file b j = b ||| 2 ^ (j * F + (file + rank - j)) from if_pos hc]
    exact exs_cons (ex_ite_t ht (exs_cons (ex_aug rfl (ev_bin ev_lit (ev_bin (ev_bin (ev_loc rfl) (ev_files H rfl) hmul) (ev_loc rfl) rfl) t3) rfl rfl) exs_nil)) exs_nil
  · have hf : (icmp .le 0 ((file : Int) + rank - j) && icmp .lt ((file : Int) + rank - j) (F : Int)) = false := by
      rw [Bool.and_eq_false_iff]
      simp only [icmp, decide_eq_false_iff_not]
      omega
    have ht := evT_chain (G := glbG) (Γ := Γ) (m := m) (l := [some (.ref g), some (.int (sq : Nat)), some (.int (bit : Nat)), some (.int (rank : Nat)), some (.int (file : Nat)), some (.int ((lmR F rank file a j : Nat) : Int)), some (.int (b : Nat)), some (.int (j : Nat)), some (.int ((file : Int) + j - rank)), some (.int ((file : Int) + rank - j))]) (c := .le) (d := .lt) (ev_lit (i := 0)) (ev_loc (x := 9) rfl) (ev_files (x := 0) H rfl) rfl rfl
    rw [hf] at ht
    rw [show lmL F rank file b j = b from if_neg hc]
    exact exs_cons (ex_ite_f ht exs_nil) exs_nil

theorem lm_loop {Γ : Orc} {g F R sq bit rank file : Nat} {m : Mem} (H : Geo g F R m) (hF : F ≤ 10) (hrk : rank ≤ 20) (hfl : file ≤ 20) : ∀ (ks : List Nat) (a b : Nat) (x y z : Option V), (∀ k ∈ ks, k ≤ 10) →
    ∃ x' y' z', forL (fun v st => (setSlot st.1 7 v).bind fun l => exs glbG Γ lmBody (l, st.2)) (ks.map fun j => V.int (j : Nat)) ([some (.ref g), some (.int (sq : Nat)), some (.int (bit : Nat)), some (.int (rank : Nat)), some (.int (file : Nat)), some (.int (a : Nat)), some (.int (b : Nat)), x, y, z], m) =
    some (.next, ([some (.ref g), some (.int (sq : Nat)), some (.int (bit : Nat)), some (.int (rank : Nat)), some (.int (file : Nat)), some (.int ((ks.foldl (lmR F rank file) a : Nat) : Int)), some (.int ((ks.foldl (lmL F rank file) b : Nat) : Int)), x', y', z'], m))
  | [], a, b, x, y, z, _ => ⟨x, y, z, rfl⟩
  | k :: ks, a, b, x, y, z, h => by
    obtain ⟨y1, z1, h1⟩ := lm_step (Γ := Γ) (sq := sq) (bit := bit) (a := a) (b := b) (x := x) (y := y) (z := z) H hF (h k (.head _)) hrk hfl
    obtain ⟨x', y', z', h2⟩ := lm_loop (Γ := Γ) (sq := sq) (bit := bit) H hF hrk hfl ks (lmR F rank file a k) (lmL F rank file b k) (some (.int (k : Nat))) y1 z1 fun j hj => h j (.tail _ hj)
    refine ⟨x', y', z', ?_⟩
    rw [List.map_cons, forL]
    dsimp only
    rw [h1]
    exact h2

theorem line_masks_run {n g F R sq : Nat} {m : Mem} (H : Geo g F R m) (hF : 1 ≤ F) (hF2 : F ≤ 10) (hR2 : R ≤ 10) (hs : sq < F * R) :
    ∃ m' t, Sm (n + 1) 2 [.ref g, .int (sq : Nat)] m = some (.ref t, m') ∧ m <+: m' ∧
      m'[t]? = some (.tup [.int ((lineM F R sq 0 : Nat) : Int), .int ((lineM F R sq 1 : Nat) : Int), .int ((lineM F R sq 2 : Nat) : Int), .int ((lineM F R sq 3 : Nat) : Int)]) := by
  have hrk : sq / F < R := by rw [Nat.div_lt_iff_lt_mul (by omega), Nat.mul_comm]; exact hs
  have hfl : sq % F < F := Nat.mod_lt _ (by omega)
  have hz : F * R ≤ 100 := Nat.mul_le_mul hF2 hR2
  have H1 : Geo g F R (m ++ [.range 0 (R : Int) 1]) := H.mono (List.prefix_append _ _)
  obtain ⟨x', y', z', hl⟩ := lm_loop (Γ := sem glbG fns n) (sq := sq) (bit := 2 ^ sq) (rank := sq / F) (file := sq % F) H1 hF2 (by omega) (by omega) (List.range R) 0 0 none none none fun k hk => by
    have := List.mem_range.mp hk; omega
  refine ⟨(m ++ [.range 0 (R : Int) 1]) ++ [.tup [.int ((lineM F R sq 0 : Nat) : Int), .int ((lineM F R sq 1 : Nat) : Int), .int ((lineM F R sq 2 : Nat) : Int), .int ((lineM F R sq 3 : Nat) : Int)]], (m ++ [O.range 0 (R : Int) 1]).length, ?_, by rw [List.append_assoc]; exact List.prefix_append _ _, last_at⟩
  show sem glbG fns (n + 1) 2 _ m = _
  rw [sem_at (f := fLineMasks) rfl]
  have hdiv : ibin .fdiv (sq : Int) (F : Int) = some ((sq / F : Nat) : Int) := by
    have : ((F : Int) != 0 && small (F : Int)) = true := by
      rw [small_nat (by omega), Bool.and_true, bne_iff_ne]; omega
    simp only [ibin, this, if_true, Int.ofNat_fdiv]
  have hmod : ibin .mod (sq : Int) (F : Int) = some ((sq % F : Nat) : Int) := by
    have : ((F : Int) != 0) = true := by rw [bne_iff_ne]; omega
    simp only [ibin, this, if_true, Int.ofNat_fmod]
  exact run_fn rfl (st := (_, _)) (
    exs_cons (ex_asg (ev_bin ev_lit (ev_loc rfl) (shl_one (by omega))) rfl) (
    exs_cons (ex_asg (ev_bin (ev_loc rfl) (ev_files H rfl) hdiv) rfl) (
    exs_cons (ex_asg (ev_bin (ev_loc rfl) (ev_files H rfl) hmod) rfl) (
    exs_cons (ex_asg ev_lit rfl) (
    exs_cons (ex_asg ev_lit rfl) (
    exs_cons (ex_for_range (ev_range (evs_cons (ev_ranks H rfl) evs_nil) (range_nat (by omega))) last_at hl) (
    exs_ret (ex_ret (ev_tup (evs_cons (ev_bin (ev_rank H1 rfl (ev_loc rfl) hrk (by omega)) (ev_loc rfl) rfl) (evs_cons (ev_bin (ev_file H1 rfl (ev_loc rfl) hfl (by omega)) (ev_loc rfl) rfl) (evs_cons (ev_bin (ev_loc rfl) (ev_loc rfl) rfl) (evs_cons (ev_bin (ev_loc rfl) (ev_loc rfl) rfl) evs_nil)))) (by simp))))))))))
end Mine
end
section
open PySem
namespace Mine

/-! a board's square: its lines -/
structure Board (F R sq : Nat) (U D : Nat → List Nat) : Prop where
  F1 : 2 ≤ F
  F2 : F ≤ 5
  R1 : 3 ≤ R
  R2 : R ≤ 6
  line : ∀ k, k < 4 → Line (F * R) sq (U k) (D k)
  mask : ∀ k, k < 4 → lineM F R sq k = sumB (U k ++ D k)
  rook : ((U 0 ++ D 0) ++ (U 1 ++ D 1)).Nodup
  bish : ((U 2 ++ D 2) ++ (U 3 ++ D 3)).Nodup
  all : (((U 0 ++ D 0) ++ (U 1 ++ D 1)) ++ ((U 2 ++ D 2) ++ (U 3 ++ D 3))).Nodup

section
variable {F R sq men g : Nat} {U D : Nat → List Nat} {m : Mem}
theorem Board.ok (B : Board F R sq U D) : sq < F * R := (B.line 0 (by decide)).ok
theorem Board.sz (B : Board F R sq U D) : F * R ≤ 30 := Nat.mul_le_mul B.F2 B.R2

noncomputable abbrev sk (men : Nat) (U D : Nat → List Nat) (k : Nat) : Nat := seenN men (U k) (D k)

theorem reach4 (men : Nat) (a b c d : List Nat) (h : ((a ++ b) ++ (c ++ d)).Nodup) : seenN men a b ||| seenN men c d = seenN men a b + seenN men c d := by
  unfold seenN
  rw [← sumB_append, ← sumB_append]
  exact sumB_or (List.Nodup.sublist (((reach_sub men a).append (reach_sub men b)).append ((reach_sub men c).append (reach_sub men d))) h)

theorem reach8 (men : Nat) (a b c d a' b' c' d' : List Nat) (h : (((a ++ b) ++ (c ++ d)) ++ ((a' ++ b') ++ (c' ++ d'))).Nodup) :
    (seenN men a b + seenN men c d) ||| (seenN men a' b' + seenN men c' d') = seenN men a b + seenN men c d + (seenN men a' b' + seenN men c' d') := by
  unfold seenN
  rw [← sumB_append, ← sumB_append, ← sumB_append, ← sumB_append, ← sumB_append, ← sumB_append]
  exact sumB_or (List.Nodup.sublist ((((reach_sub men a).append (reach_sub men b)).append ((reach_sub men c).append (reach_sub men d))).append (((reach_sub men a').append (reach_sub men b')).append ((reach_sub men c').append (reach_sub men d')))) h)

theorem att_line (B : Board F R sq U D) (H : Geo g F R m) {n k : Nat} (hk : k < 4) :
    ∃ m', Sm (n + 2) 4 [.ref g, .int (sq : Nat), .int ((lineM F R sq k : Nat) : Int), .int (men : Nat)] m = some (.int ((sk men U D k : Nat) : Int), m') ∧ m <+: m' := by
  obtain ⟨m', h1, h2⟩ := line_attacks_run (n := n) (mask := lineM F R sq k) (men := men) H (by have := B.sz; omega) B.ok
  refine ⟨m', ?_, h2⟩
  rw [h1, B.mask k hk, (B.line k hk).att]
  rfl
theorem obs_line (B : Board F R sq U D) (H : Geo g F R m) {n k : Nat} (hk : k < 4) :
    Sm (n + 2) 5 [.ref g, .int (sq : Nat), .int ((lineM F R sq k : Nat) : Int), .int (men : Nat)] m = some (.int ((sk men U D k : Nat) : Int), m) := by
  rw [B.mask k hk]
  exact obstruction_run H (by have := B.sz; omega) (B.line k hk)

theorem tup_seq {m : Mem} {t : Nat} {vs : List V} (h : m[t]? = some (.tup vs)) : seqOf m (.ref t) = some vs := by simp only [seqOf, h]
theorem list_seq {m : Mem} {t : Nat} {vs : List V} (h : m[t]? = some (.list vs)) : seqOf m (.ref t) = some vs := by simp only [seqOf, h]

theorem masks_run (B : Board F R sq U D) (H : Geo g F R m) {n : Nat} : ∃ m' t, Sm (n + 1) 2 [.ref g, .int (sq : Nat)] m = some (.ref t, m') ∧ m <+: m' ∧
      m'[t]? = some (.tup [.int ((lineM F R sq 0 : Nat) : Int), .int ((lineM F R sq 1 : Nat) : Int), .int ((lineM F R sq 2 : Nat) : Int), .int ((lineM F R sq 3 : Nat) : Int)]) :=
  line_masks_run H (by have := B.F1; omega) (by have := B.F2; omega) (by have := B.R2; omega) B.ok

theorem rook_run (B : Board F R sq U D) (H : Geo g F R m) {n : Nat} : ∃ m', Sm (n + 3) 6 [.ref g, .int (sq : Nat), .int (men : Nat)] m = some (.int ((sk men U D 0 + sk men U D 1 : Nat) : Int), m') ∧ m <+: m' := by
  obtain ⟨m1, t, h1, p1, ht⟩ := masks_run (n := n + 1) B H
  obtain ⟨m2, h2, p2⟩ := att_line (men := men) (n := n) (k := 0) B (H.mono p1) (by decide)
  obtain ⟨m3, h3, p3⟩ := att_line (men := men) (n := n) (k := 1) B (H.mono (p1.trans p2)) (by decide)
  refine ⟨m3, ?_, (p1.trans p2).trans p3⟩
  show sem glbG fns (n + 2 + 1) 6 _ m = _
  rw [sem_at (f := fHyperbolaRook) rfl, ← reach4 men _ _ _ _ B.rook]
  exact run_fn rfl (st := (_, _)) (
    exs_cons (ex_asg (ev_call (evs_cons (ev_loc rfl) (evs_cons (ev_loc rfl) evs_nil)) h1) rfl) (
    exs_ret (ex_ret (ev_bin (ev_call (evs_cons (ev_loc rfl) (evs_cons (ev_loc rfl) (evs_cons (ev_idx (ev_loc rfl) ev_lit (tup_seq ht) rfl rfl) (evs_cons (ev_loc rfl) evs_nil)))) h2)
      (ev_call (evs_cons (ev_loc rfl) (evs_cons (ev_loc rfl) (evs_cons (ev_idx (ev_loc rfl) ev_lit (tup_seq (pre_at p2 ht)) rfl rfl) (evs_cons (ev_loc rfl) evs_nil)))) h3) rfl))))
theorem bishop_run (B : Board F R sq U D) (H : Geo g F R m) {n : Nat} : ∃ m', Sm (n + 3) 7 [.ref g, .int (sq : Nat), .int (men : Nat)] m = some (.int ((sk men U D 2 + sk men U D 3 : Nat) : Int), m') ∧ m <+: m' := by
  obtain ⟨m1, t, h1, p1, ht⟩ := masks_run (n := n + 1) B H
  obtain ⟨m2, h2, p2⟩ := att_line (men := men) (n := n) (k := 2) B (H.mono p1) (by decide)
  obtain ⟨m3, h3, p3⟩ := att_line (men := men) (n := n) (k := 3) B (H.mono (p1.trans p2)) (by decide)
  refine ⟨m3, ?_, (p1.trans p2).trans p3⟩
  show sem glbG fns (n + 2 + 1) 7 _ m = _
  rw [sem_at (f := fHyperbolaBishop) rfl, ← reach4 men _ _ _ _ B.bish]
  exact run_fn rfl (st := (_, _)) (
    exs_cons (ex_asg (ev_call (evs_cons (ev_loc rfl) (evs_cons (ev_loc rfl) evs_nil)) h1) rfl) (
    exs_ret (ex_ret (ev_bin (ev_call (evs_cons (ev_loc rfl) (evs_cons (ev_loc rfl) (evs_cons (ev_idx (ev_loc rfl) ev_lit (tup_seq ht) rfl rfl) (evs_cons (ev_loc rfl) evs_nil)))) h2)
      (ev_call (evs_cons (ev_loc rfl) (evs_cons (ev_loc rfl) (evs_cons (ev_idx (ev_loc rfl) ev_lit (tup_seq (pre_at p2 ht)) rfl rfl) (evs_cons (ev_loc rfl) evs_nil)))) h3) rfl))))
theorem orook_run (B : Board F R sq U D) (H : Geo g F R m) {n : Nat} : ∃ m', Sm (n + 3) 9 [.ref g, .int (sq : Nat), .int (men : Nat)] m = some (.int ((sk men U D 0 + sk men U D 1 : Nat) : Int), m') ∧ m <+: m' := by
  obtain ⟨m1, t, h1, p1, ht⟩ := masks_run (n := n + 1) B H
  have h2 := obs_line (men := men) (n := n) (k := 0) B (H.mono p1) (by decide)
  have h3 := obs_line (men := men) (n := n) (k := 1) B (H.mono p1) (by decide)
  refine ⟨m1, ?_, p1⟩
  show sem glbG fns (n + 2 + 1) 9 _ m = _
  rw [sem_at (f := fObstructionRook) rfl, ← reach4 men _ _ _ _ B.rook]
  exact run_fn rfl (st := (_, _)) (
    exs_cons (ex_asg (ev_call (evs_cons (ev_loc rfl) (evs_cons (ev_loc rfl) evs_nil)) h1) rfl) (
    exs_ret (ex_ret (ev_bin (ev_call (evs_cons (ev_loc rfl) (evs_cons (ev_loc rfl) (evs_cons (ev_idx (ev_loc rfl) ev_lit (tup_seq ht) rfl rfl) (evs_cons (ev_loc rfl) evs_nil)))) h2)
      (ev_call (evs_cons (ev_loc rfl) (evs_cons (ev_loc rfl) (evs_cons (ev_idx (ev_loc rfl) ev_lit (tup_seq ht) rfl rfl) (evs_cons (ev_loc rfl) evs_nil)))) h3) rfl))))
theorem obishop_run (B : Board F R sq U D) (H : Geo g F R m) {n : Nat} : ∃ m', Sm (n + 3) 10 [.ref g, .int (sq : Nat), .int (men : Nat)] m = some (.int ((sk men U D 2 + sk men U D 3 : Nat) : Int), m') ∧ m <+: m' := by
  obtain ⟨m1, t, h1, p1, ht⟩ := masks_run (n := n + 1) B H
  have h2 := obs_line (men := men) (n := n) (k := 2) B (H.mono p1) (by decide)
  have h3 := obs_line (men := men) (n := n) (k := 3) B (H.mono p1) (by decide)
  refine ⟨m1, ?_, p1⟩
  show sem glbG fns (n + 2 + 1) 10 _ m = _
  rw [sem_at (f := fObstructionBishop) rfl, ← reach4 men _ _ _ _ B.bish]
  exact run_fn rfl (st := (_, _)) (
    exs_cons (ex_asg (ev_call (evs_cons (ev_loc rfl) (evs_cons (ev_loc rfl) evs_nil)) h1) rfl) (
    exs_ret (ex_ret (ev_bin (ev_call (evs_cons (ev_loc rfl) (evs_cons (ev_loc rfl) (evs_cons (ev_idx (ev_loc rfl) ev_lit (tup_seq ht) rfl rfl) (evs_cons (ev_loc rfl) evs_nil)))) h2)
      (ev_call (evs_cons (ev_loc rfl) (evs_cons (ev_loc rfl) (evs_cons (ev_idx (ev_loc rfl) ev_lit (tup_seq ht) rfl rfl) (evs_cons (ev_loc rfl) evs_nil)))) h3) rfl))))

theorem or_zero_left (x : Nat) : ibin .bor 0 (x : Int) = some (x : Int) := by
  show some (((0 ||| x : Nat)) : Int) = _
  rw [Nat.zero_or]

theorem attacks_rook (B : Board F R sq U D) (H : Geo g F R m) {n : Nat} : ∃ m', Sm (n + 4) 8 [.ref g, .int 4, .int (sq : Nat), .int (men : Nat)] m = some (.int ((sk men U D 0 + sk men U D 1 : Nat) : Int), m') ∧ m <+: m' := by
  obtain ⟨m1, h1, p1⟩ := rook_run (men := men) (n := n) B H
  refine ⟨m1, ?_, p1⟩
  show sem glbG fns (n + 3 + 1) 8 _ m = _
  rw [sem_at (f := fHyperbolaAttacks) rfl]
  exact run_fn rfl (st := (_, _)) (
    exs_cons (ex_asg ev_lit rfl) (
    exs_cons (ex_ite_t (evT_cmp (ev_loc rfl) (ev_gint rfl) rfl) (exs_cons (ex_aug rfl (ev_call (evs_cons (ev_loc rfl) (evs_cons (ev_loc rfl) (evs_cons (ev_loc rfl) evs_nil))) h1) (or_zero_left _) rfl) exs_nil)) (
    exs_cons (ex_ite_f (evT_cmp (ev_loc rfl) (ev_gint rfl) rfl) exs_nil) (
    exs_ret (ex_ret (ev_loc rfl))))))
theorem attacks_bishop (B : Board F R sq U D) (H : Geo g F R m) {n : Nat} : ∃ m', Sm (n + 4) 8 [.ref g, .int 3, .int (sq : Nat), .int (men : Nat)] m = some (.int ((sk men U D 2 + sk men U D 3 : Nat) : Int), m') ∧ m <+: m' := by
  obtain ⟨m1, h1, p1⟩ := bishop_run (men := men) (n := n) B H
  refine ⟨m1, ?_, p1⟩
  show sem glbG fns (n + 3 + 1) 8 _ m = _
  rw [sem_at (f := fHyperbolaAttacks) rfl]
  exact run_fn rfl (st := (_, _)) (
    exs_cons (ex_asg ev_lit rfl) (
    exs_cons (ex_ite_f (evT_cmp (ev_loc rfl) (ev_gint rfl) rfl) exs_nil) (
    exs_cons (ex_ite_t (evT_cmp (ev_loc rfl) (ev_gint rfl) rfl) (exs_cons (ex_aug rfl (ev_call (evs_cons (ev_loc rfl) (evs_cons (ev_loc rfl) (evs_cons (ev_loc rfl) evs_nil))) h1) (or_zero_left _) rfl) exs_nil)) (
    exs_ret (ex_ret (ev_loc rfl))))))
theorem attacks_queen (B : Board F R sq U D) (H : Geo g F R m) {n : Nat} : ∃ m', Sm (n + 4) 8 [.ref g, .int 5, .int (sq : Nat), .int (men : Nat)] m = some (.int ((sk men U D 0 + sk men U D 1 + (sk men U D 2 + sk men U D 3) : Nat) : Int), m') ∧ m <+: m' := by
  obtain ⟨m1, h1, p1⟩ := rook_run (men := men) (n := n) B H
  obtain ⟨m2, h2, p2⟩ := bishop_run (men := men) (n := n) B (H.mono p1)
  refine ⟨m2, ?_, p1.trans p2⟩
  show sem glbG fns (n + 3 + 1) 8 _ m = _
  rw [sem_at (f := fHyperbolaAttacks) rfl, ← reach8 men _ _ _ _ _ _ _ _ B.all]
  exact run_fn rfl (st := (_, _)) (
    exs_cons (ex_asg ev_lit rfl) (
    exs_cons (ex_ite_t (evT_cmp (ev_loc rfl) (ev_gint rfl) rfl) (exs_cons (ex_aug rfl (ev_call (evs_cons (ev_loc rfl) (evs_cons (ev_loc rfl) (evs_cons (ev_loc rfl) evs_nil))) h1) (or_zero_left _) rfl) exs_nil)) (
    exs_cons (ex_ite_t (evT_cmp (ev_loc rfl) (ev_gint rfl) rfl) (exs_cons (ex_aug rfl (ev_call (evs_cons (ev_loc rfl) (evs_cons (ev_loc rfl) (evs_cons (ev_loc rfl) evs_nil))) h2) rfl rfl) exs_nil)) (
    exs_ret (ex_ret (ev_loc rfl))))))
end
end Mine
end
section
open PySem
namespace Mine

/-! _law_ray -/
noncomputable def inB (F R f r : Int) : Bool := (icmp .le 0 f && icmp .lt f F) && (icmp .le 0 r && icmp .lt r R)
noncomputable def rayO (F R dx dy : Int) : Nat → Int → Int → Option (List Int)
  | 0, _, _ => none
  | n + 1, f, r => if inB F R f r then (rayO F R dx dy n (f + dx) (r + dy)).map fun l => (r * F + f) :: l else some []

noncomputable abbrev rayTest : E := .and (.chain .le .lt (.lit 0) (.loc 5) (.loc 0)) (.chain .le .lt (.lit 0) (.loc 6) (.loc 1))
noncomputable abbrev rayBody : List S := [
    .app (.loc 4) (.bin .add (.bin .mul (.loc 6) (.loc 0)) (.loc 5)),
    .aug 5 .add (.idx (.loc 3) (.lit 0)),
    .aug 6 .add (.idx (.loc 3) (.lit 1))]

theorem set_last {m : Mem} {o o' : O} : (m ++ [o]).set m.length o' = m ++ [o'] := by simp
theorem in_old {m : Mem} {o : O} {i : Nat} {c : O} (h : m[i]? = some c) : (m ++ [o])[i]? = some c := pre_at (List.prefix_append _ _) h

theorem ray_loop {Γ : Orc} {F R : Nat} {dx dy : Int} {w : Nat} {sq : Option V} {m : Mem} (hR : R ≤ 100) (hw : m[w]? = some (.tup [.int dx, .int dy])) : ∀ (n fuel : Nat) (f r : Int) (L : List Int) (acc : List V), rayO F R dx dy n f r = some L → n ≤ fuel → acc.length + n ≤ 1000 →
    ∃ f' r', whl (fun st => evT glbG Γ st.1 rayTest st.2) (exs glbG Γ rayBody) fuel ([some (.int (F : Nat)), some (.int (R : Nat)), sq, some (.ref w), some (.ref m.length), some (.int f), some (.int r)], m ++ [.list acc]) =
      some (.next, ([some (.int (F : Nat)), some (.int (R : Nat)), sq, some (.ref w), some (.ref m.length), some (.int f'), some (.int r')], m ++ [.list (acc ++ L.map V.int)])) := by
  intro n
  induction n with
  | zero => intro fuel f r L acc h; simp [rayO] at h
  | succ n ih =>
    intro fuel f r L acc h hf ha
    obtain ⟨fuel', rfl⟩ : ∃ k, fuel = k + 1 := ⟨fuel - 1, by omega⟩
    have ht : evT glbG Γ [some (.int (F : Nat)), some (.int (R : Nat)), sq, some (.ref w), some (.ref m.length), some (.int f), some (.int r)] rayTest (m ++ [.list acc]) = some (inB F R f r, m ++ [.list acc]) :=
      evT_and (evT_chain (ev_lit (i := 0)) (ev_loc rfl) (ev_loc rfl) rfl rfl) (evT_chain (ev_lit (i := 0)) (ev_loc rfl) (ev_loc rfl) rfl rfl)
    unfold rayO at h
    cases hin : inB F R f r with
    | false =>
      rw [hin] at h ht
      simp only [Bool.false_eq_true, if_false, Option.some.injEq] at h
      subst h
      refine ⟨f, r, ?_⟩
      rw [whl_f ht]
      simp
    | true =>
      rw [hin] at h ht
      simp only [if_true, Option.map_eq_some_iff] at h
      obtain ⟨L', hL, rfl⟩ := h
      obtain ⟨f', r', hr⟩ := ih fuel' (f + dx) (r + dy) L' (acc ++ [.int (r * F + f)]) hL (by omega) (by simp; omega)
      refine ⟨f', r', ?_⟩
      have hs : small r = true := by
        unfold inB at hin
        simp only [icmp, Bool.and_eq_true, decide_eq_true_eq] at hin
        exact Nat.ble_eq_true_of_le (by omega)
      have hmul : ibin .mul r (F : Int) = some (r * F) := by simp only [ibin, hs, if_true]
      have h1 : (m ++ [O.list acc])[m.length]? = some (.list acc) := last_at
      have step : exs glbG Γ rayBody ([some (.int (F : Nat)), some (.int (R : Nat)), sq, some (.ref w), some (.ref m.length), some (.int f), some (.int r)], m ++ [.list acc]) =
          some (.next, ([some (.int (F : Nat)), some (.int (R : Nat)), sq, some (.ref w), some (.ref m.length), some (.int (f + dx)), some (.int (r + dy))], m ++ [.list (acc ++ [.int (r * F + f)])])) := by
        refine exs_cons (ex_app (ev_loc rfl) h1 (ev_bin (ev_bin (ev_loc rfl) (ev_loc rfl) hmul) (ev_loc rfl) rfl) h1 (by omega)) ?_
        rw [set_last]
        exact exs_cons (ex_aug rfl (ev_idx (ev_loc rfl) ev_lit (tup_seq (in_old hw)) rfl rfl) rfl rfl) (exs_cons (ex_aug rfl (ev_idx (ev_loc rfl) ev_lit (tup_seq (in_old hw)) rfl rfl) rfl rfl) exs_nil)
      rw [whl_t ht step hr]
      simp

theorem imod_nat {a b : Nat} (h : b ≠ 0) : ibin .mod (a : Int) (b : Int) = some ((a % b : Nat) : Int) := by
  have : ((b : Int) != 0) = true := by rw [bne_iff_ne]; omega
  simp only [ibin, this, if_true, Int.ofNat_fmod]
theorem ifdiv_nat {a b : Nat} (h : b ≠ 0) (hs : b < 2 ^ 64) : ibin .fdiv (a : Int) (b : Int) = some ((a / b : Nat) : Int) := by
  have : ((b : Int) != 0 && small (b : Int)) = true := by
    rw [small_nat hs, Bool.and_true, bne_iff_ne]; omega
  simp only [ibin, this, if_true, Int.ofNat_fdiv]
theorem ipow_nat {k : Nat} (h : k ≤ 1000) : ibin .pow 2 (k : Int) = some ((2 ^ k : Nat) : Int) := by
  have : ((2 : Int) == 2 && shOk (k : Int)) = true := by rw [shOk_nat h]; rfl
  simp only [ibin, this, if_true, p2_nat]

theorem ray_run {n F R sq w : Nat} {dx dy : Int} {L : List Int} {m : Mem} (hF : 1 ≤ F) (hF2 : F ≤ 100) (hR : R ≤ 100) (hw : m[w]? = some (.tup [.int dx, .int dy])) (hL : rayO F R dx dy 20 (((sq % F : Nat) : Int) + dx) (((sq / F : Nat) : Int) + dy) = some L) :
    Sm (n + 1) 19 [.int (F : Nat), .int (R : Nat), .int (sq : Nat), .ref w] m = some (.ref m.length, m ++ [.list (L.map V.int)]) := by
  obtain ⟨f', r', h⟩ := ray_loop (Γ := sem glbG fns n) (sq := some (.int (sq : Nat))) hR hw 20 whileFuel _ _ L [] hL (by decide) (by decide)
  show sem glbG fns (n + 1) 19 _ m = _
  rw [sem_at (f := fLawRay) rfl]
  have hd := ifdiv_nat (a := sq) (b := F) (by omega) (by omega)
  have hm := imod_nat (a := sq) (b := F) (by omega)
  exact run_fn rfl (st := (_, _)) (
    exs_cons (ex_asg (ev_list evs_nil (by decide)) rfl) (
    exs_cons (ex_asg (ev_bin (ev_bin (ev_loc rfl) (ev_loc rfl) hm) (ev_idx (ev_loc rfl) ev_lit (tup_seq (in_old hw)) rfl rfl) rfl) rfl) (
    exs_cons (ex_asg (ev_bin (ev_bin (ev_loc rfl) (ev_loc rfl) hd) (ev_idx (ev_loc rfl) ev_lit (tup_seq (in_old hw)) rfl rfl) rfl) rfl) (
    exs_cons (ex_while h) (
    exs_ret (ex_ret (ev_loc rfl)))))))

/-! the law's loops -/
theorem forS_done {get : Mem → Option (List V)} {step : V → St → Option (Fl × St)} {n k : Nat} {st : St} {vs : List V} (hg : get st.2 = some vs) (hv : vs[k]? = none) : forS get step (n + 1) k st = some (.next, st) := by
  simp only [forS, hg, hv]
theorem forS_step {get : Mem → Option (List V)} {step : V → St → Option (Fl × St)} {n k : Nat} {st st' : St} {vs : List V} {v : V} {r : Option (Fl × St)} (hg : get st.2 = some vs) (hv : vs[k]? = some v) (hs : step v st = some (.next, st')) (hr : forS get step n (k + 1) st' = r) :
    forS get step (n + 1) k st = r := by
  simp only [forS, hg, hv, hs, hr]
theorem listAt_of {i : Nat} {m : Mem} {vs : List V} (h : m[i]? = some (.list vs)) : listAt i m = some vs := by simp only [listAt, h]
theorem tupAt_of {i : Nat} {m : Mem} {vs : List V} (h : m[i]? = some (.tup vs)) : tupAt i m = some vs := by simp only [tupAt, h]
theorem ex_for_list {G : Glb} {Γ : Orc} {l : Loc} {m m1 : Mem} {x : Nat} {it : E} {b : List S} {i : Nat} {vs : List V} {r : Option (Fl × St)} (h : ev G Γ l it m = some (.ref i, m1)) (hi : m1[i]? = some (.list vs))
    (hl : forS (listAt i) (fun v st => (setSlot st.1 x v).bind fun l => exs G Γ b (l, st.2)) (vs.length + 1) 0 (l, m1) = r) : ex G Γ (.for x it b) (l, m) = r := by
  simp only [ex, h, Option.bind_some, hi, hl]
theorem ex_for_tup {G : Glb} {Γ : Orc} {l : Loc} {m m1 : Mem} {x : Nat} {it : E} {b : List S} {i : Nat} {vs : List V} {r : Option (Fl × St)} (h : ev G Γ l it m = some (.ref i, m1)) (hi : m1[i]? = some (.tup vs))
    (hl : forS (tupAt i) (fun v st => (setSlot st.1 x v).bind fun l => exs G Γ b (l, st.2)) (vs.length + 1) 0 (l, m1) = r) : ex G Γ (.for x it b) (l, m) = r := by
  simp only [ex, h, Option.bind_some, hi, hl]

noncomputable abbrev oneBody : List S := [
          .aug 13 .add (.bin .pow (.lit 2) (.loc 17)),
          .ite (.loc 16) [
            .aug 14 .add (.bin .pow (.lit 2) (.loc 17))] [],
          .ite (.cmp .eq (.bin .mod (.bin .fdiv (.loc 9) (.bin .pow (.lit 2) (.loc 17))) (.lit 2)) (.lit 1)) [
            .asg 16 (.tt false)] []]
noncomputable abbrev wayBody : List S := [
        .asg 16 (.tt true),
        .for 17 (.call 19 [.loc 2, .loc 3, .loc 8, .loc 15]) oneBody]
noncomputable abbrev pairBody : List S := [
      .asg 13 (.lit 0),
      .asg 14 (.lit 0),
      .for 15 (.loc 12) wayBody,
      .app (.loc 10) (.loc 13),
      .app (.loc 11) (.loc 14)]

section
variable {Γ : Orc} {m : Mem} {men : Nat} {a0 a1 a2 a3 a4 a5 a6 a7 a8 a10 a11 a12 a15 a18 a19 a20 a21 : Option V}

/-- the law's names within a turn -/
noncomputable abbrev fr (a0 a1 a2 a3 a4 a5 a6 a7 a8 : Option V) (men : Nat) (a10 a11 a12 : Option V) (e r : Nat) (a15 : Option V) (op : Bool) (x a18 a19 a20 a21 : Option V) : Loc :=
  [a0, a1, a2, a3, a4, a5, a6, a7, a8, some (.int (men : Nat)), a10, a11, a12, some (.int (e : Nat)), some (.int (r : Nat)), a15, some (.bool op), x, a18, a19, a20, a21]

theorem one_step {e r p : Nat} {op : Bool} {x : Option V} (hp : p ≤ 60) :
    (setSlot (fr a0 a1 a2 a3 a4 a5 a6 a7 a8 men a10 a11 a12 e r a15 op x a18 a19 a20 a21) 17 (.int (p : Nat))).bind (fun l => exs glbG Γ oneBody (l, m)) =
    some (.next, (fr a0 a1 a2 a3 a4 a5 a6 a7 a8 men a10 a11 a12 (e + 2 ^ p) (if op then r + 2 ^ p else r) a15 (op && !men.testBit p) (some (.int (p : Nat))) a18 a19 a20 a21, m)) := by
  rw [setSlot_ok (by simp), Option.bind_some]
  have hpow := ipow_nat (k := p) (by omega)
  have hp64 : 2 ^ p < 2 ^ 64 := Nat.pow_lt_pow_right (by decide) (by omega)
  have hd := ifdiv_nat (a := men) (b := 2 ^ p) (Nat.ne_of_gt (Nat.two_pow_pos p)) hp64
  have hm := imod_nat (a := men / 2 ^ p) (b := 2) (by decide)
  have hc : icmp .eq ((men / 2 ^ p % 2 : Nat) : Int) 1 = men.testBit p := by
    rw [Nat.testBit_eq_decide_div_mod_eq]
    simp only [icmp]
    rw [Bool.eq_iff_iff, beq_iff_eq, decide_eq_true_eq]
    omega
  have tail : ∀ (r' : Nat), exs glbG Γ [.ite (.cmp .eq (.bin .mod (.bin .fdiv (.loc 9) (.bin .pow (.lit 2) (.loc 17))) (.lit 2)) (.lit 1)) [.asg 16 (.tt false)] []]
      (fr a0 a1 a2 a3 a4 a5 a6 a7 a8 men a10 a11 a12 (e + 2 ^ p) r' a15 op (some (.int (p : Nat))) a18 a19 a20 a21, m) = some (.next, (fr a0 a1 a2 a3 a4 a5 a6 a7 a8 men a10 a11 a12 (e + 2 ^ p) r' a15 (op && !men.testBit p) (some (.int (p : Nat))) a18 a19 a20 a21, m)) := by
    intro r'
    cases hb : men.testBit p with
    | true =>
      rw [hb] at hc
      rw [Bool.not_true, Bool.and_false]
      exact exs_cons (ex_ite_t (evT_cmp (ev_bin (ev_bin (ev_loc rfl) (ev_bin ev_lit (ev_loc rfl) hpow) hd) ev_lit hm) ev_lit hc) (exs_cons (ex_asg ev_tt rfl) exs_nil)) exs_nil
    | false =>
      rw [hb] at hc
      rw [Bool.not_false, Bool.and_true]
      exact exs_cons (ex_ite_f (evT_cmp (ev_bin (ev_bin (ev_loc rfl) (ev_bin ev_lit (ev_loc rfl) hpow) hd) ev_lit hm) ev_lit hc) exs_nil) exs_nil
  cases op with
  | true =>
    rw [if_pos rfl]
    exact exs_cons (ex_aug rfl (ev_bin ev_lit (ev_loc rfl) hpow) rfl rfl) (exs_cons (ex_ite_t (evT_loc rfl rfl) (exs_cons (ex_aug rfl (ev_bin ev_lit (ev_loc rfl) hpow) rfl rfl) exs_nil)) (tail _))
  | false =>
    rw [if_neg (by simp)]
    exact exs_cons (ex_aug rfl (ev_bin ev_lit (ev_loc rfl) hpow) rfl rfl) (exs_cons (ex_ite_f (evT_loc rfl rfl) exs_nil) (tail _))

theorem one_loop {i : Nat} {vs : List V} (hi : m[i]? = some (.list vs)) : ∀ (ps : List Nat) (k fuel : Nat) (e r : Nat) (op : Bool) (x : Option V), vs.drop k = ps.map (fun p => V.int (p : Nat)) → (∀ p ∈ ps, p ≤ 60) → ps.length + 1 ≤ fuel →
    ∃ op' x', forS (listAt i) (fun v st => (setSlot st.1 17 v).bind fun l => exs glbG Γ oneBody (l, st.2)) fuel k (fr a0 a1 a2 a3 a4 a5 a6 a7 a8 men a10 a11 a12 e r a15 op x a18 a19 a20 a21, m) =
      some (.next, (fr a0 a1 a2 a3 a4 a5 a6 a7 a8 men a10 a11 a12 (e + sumB ps) (r + if op then sumB (reachL men ps) else 0) a15 op' x' a18 a19 a20 a21, m))
  | [], k, fuel, e, r, op, x, hd, hp, hf => by
    obtain ⟨fuel', rfl⟩ : ∃ j, fuel = j + 1 := ⟨fuel - 1, by omega⟩
    refine ⟨op, x, ?_⟩
    have hk : vs[k]? = none := by
      rw [List.getElem?_eq_none_iff]
      have := congrArg List.length hd
      rw [List.length_drop] at this
      simp at this
      omega
    rw [forS_done (listAt_of hi) hk]
    cases op <;> simp [sumB, reachL]
  | p :: ps, k, fuel, e, r, op, x, hd, hp, hf => by
    obtain ⟨fuel', rfl⟩ : ∃ j, fuel = j + 1 := ⟨fuel - 1, by omega⟩
    have hk : vs[k]? = some (V.int (p : Nat)) := by
      have := congrArg (fun l => l[0]?) hd
      simpa using this
    have hd' : vs.drop (k + 1) = ps.map (fun p => V.int (p : Nat)) := by
      have := congrArg (fun l => l.drop 1) hd
      rw [List.drop_drop] at this
      simpa [Nat.add_comm] using this
    obtain ⟨op', x', h⟩ := one_loop hi ps (k + 1) fuel' (e + 2 ^ p) (if op then r + 2 ^ p else r) (op && !men.testBit p) (some (.int (p : Nat))) hd' (fun q hq => hp q (.tail _ hq)) (by simp at hf; omega)
    refine ⟨op', x', ?_⟩
    have he : e + 2 ^ p + sumB ps = e + sumB (p :: ps) := by simp only [sumB]; omega
    have hr : (if op then r + 2 ^ p else r) + (if (op && !men.testBit p) = true then sumB (reachL men ps) else 0) = r + if op = true then sumB (reachL men (p :: ps)) else 0 := by
      cases op <;> cases hb : men.testBit p <;> simp [reachL, sumB, hb] <;> omega
    rw [he, hr] at h
    exact forS_step (listAt_of hi) hk (one_step (hp p (.head _))) h
end
end Mine
end
section
open PySem
namespace Mine

theorem set_pre {M0 m : Mem} {i : Nat} {c : O} (h : M0 <+: m) (hi : M0.length ≤ i) : M0 <+: m.set i c := by
  obtain ⟨t, rfl⟩ := h
  rw [List.set_append_right _ _ hi]
  exact List.prefix_append _ _
theorem evT_tne_f {G : Glb} {Γ : Orc} {l : Loc} {m m1 m2 : Mem} {a b : E} {i j : Nat} {us : List V} {ns : List Int} (ha : ev G Γ l a m = some (.ref i, m1)) (hb : ev G Γ l b m1 = some (.ref j, m2)) (hi : m2[i]? = some (.tup us)) (hj : m2[j]? = some (.tup us)) (hu : ints? us = some ns) :
    evT G Γ l (.tne a b) m = some (false, m2) := by
  simp only [evT, ha, hb, Option.bind_some, hi, hj, hu, decide_true, Bool.not_true]
theorem forL_step {step : V → St → Option (Fl × St)} {v : V} {vs : List V} {st st' : St} {r : Option (Fl × St)} (h : step v st = some (.next, st')) (hr : forL step vs st' = r) : forL step (v :: vs) st = r := by
  simp only [forL, h, hr]
theorem ne_self {x : Int} : icmp .ne x x = false := by simp only [icmp, bne_self_eq_false]
theorem place_nat {k : Nat} (h : k < 2 ^ 40) : place (k : Int) = some k := by
  unfold place
  rw [if_pos]
  · rfl
  · simp only [Bool.and_eq_true, decide_eq_true_eq]; omega

noncomputable def ux : Nat → Int
  | 0 => 1
  | 1 => 0
  | 2 => 1
  | _ => -1
noncomputable def uy : Nat → Int
  | 0 => 0
  | _ => 1
noncomputable def Ways (wl : Nat) (m : Mem) : Prop := ∃ q u d : Nat → Nat, m[wl]? = some (.list [.ref (q 0), .ref (q 1), .ref (q 2), .ref (q 3)]) ∧
  ∀ k, k < 4 → m[q k]? = some (.tup [.ref (u k), .ref (d k)]) ∧ m[u k]? = some (.tup [.int (ux k), .int (uy k)]) ∧ m[d k]? = some (.tup [.int (-ux k), .int (-uy k)])
structure Rays (F R sq : Nat) (U D : Nat → List Nat) : Prop where
  up : ∀ k, k < 4 → rayO F R (ux k) (uy k) 20 (((sq % F : Nat) : Int) + ux k) (((sq / F : Nat) : Int) + uy k) = some ((U k).map fun p => ((p : Nat) : Int))
  dn : ∀ k, k < 4 → rayO F R (-ux k) (-uy k) 20 (((sq % F : Nat) : Int) + -ux k) (((sq / F : Nat) : Int) + -uy k) = some ((D k).map fun p => ((p : Nat) : Int))

section
variable {m : Mem} {men : Nat} {a0 a1 a4 a5 a6 a7 a10 a11 a12 a15 a16 a17 a18 a19 a20 a21 : Option V}

theorem way_step {w : Nat} {dx dy : Int} {F R sq : Nat} {ps : List Nat} {e r : Nat} (hF : 1 ≤ F) (hF2 : F ≤ 100) (hR : R ≤ 100) (hw : m[w]? = some (.tup [.int dx, .int dy]))
    (hL : rayO F R dx dy 20 (((sq % F : Nat) : Int) + dx) (((sq / F : Nat) : Int) + dy) = some (ps.map fun p => ((p : Nat) : Int))) (hp : ∀ p ∈ ps, p ≤ 60) :
    ∃ x16 x17, (setSlot [a0, a1, some (.int (F : Nat)), some (.int (R : Nat)), a4, a5, a6, a7, some (.int (sq : Nat)), some (.int (men : Nat)), a10, a11, a12, some (.int (e : Nat)), some (.int (r : Nat)), a15, a16, a17, a18, a19, a20, a21] 15 (.ref w)).bind (fun l => exs glbG (Sm 12) wayBody (l, m)) =
      some (.next, ([a0, a1, some (.int (F : Nat)), some (.int (R : Nat)), a4, a5, a6, a7, some (.int (sq : Nat)), some (.int (men : Nat)), a10, a11, a12, some (.int ((e + sumB ps : Nat) : Int)), some (.int ((r + sumB (reachL men ps) : Nat) : Int)), some (.ref w), x16, x17, a18, a19, a20, a21],
        m ++ [.list (ps.map fun p => V.int (p : Nat))])) := by
  have hr := ray_run (n := 11) hF hF2 hR hw hL
  rw [List.map_map] at hr
  have hlast : (m ++ [O.list (ps.map (V.int ∘ fun p => ((p : Nat) : Int)))])[m.length]? = some (.list (ps.map (V.int ∘ fun p => ((p : Nat) : Int)))) := last_at
  obtain ⟨op', x', h⟩ := one_loop (Γ := Sm 12) (men := men) (a0 := a0) (a1 := a1) (a2 := some (.int (F : Nat))) (a3 := some (.int (R : Nat))) (a4 := a4) (a5 := a5) (a6 := a6) (a7 := a7) (a8 := some (.int (sq : Nat))) (a10 := a10) (a11 := a11) (a12 := a12) (a15 := some (.ref w)) (a18 := a18) (a19 := a19) (a20 := a20) (a21 := a21)
    hlast ps 0 (ps.length + 1) e r true a17 rfl hp (Nat.le_refl _)
  refine ⟨some (.bool op'), x', ?_⟩
  rw [setSlot_ok (by simp), Option.bind_some]
  rw [if_pos rfl] at h
  refine exs_cons (ex_asg ev_tt rfl) (exs_cons (ex_for_list (ev_call (evs_cons (ev_loc rfl) (evs_cons (ev_loc rfl) (evs_cons (ev_loc rfl) (evs_cons (ev_loc rfl) evs_nil)))) hr) hlast ?_) exs_nil)
  rw [List.length_map]
  exact h

theorem pair_step {q w1 w2 a b : Nat} {dx dy : Int} {F R sq : Nat} {U D : List Nat} {xs ys : List V} {M0 : Mem} (hF : 1 ≤ F) (hF2 : F ≤ 100) (hR : R ≤ 100) (pm : M0 <+: m)
    (hq : M0[q]? = some (.tup [.ref w1, .ref w2])) (h1 : M0[w1]? = some (.tup [.int dx, .int dy])) (h2 : M0[w2]? = some (.tup [.int (-dx), .int (-dy)]))
    (hU : rayO F R dx dy 20 (((sq % F : Nat) : Int) + dx) (((sq / F : Nat) : Int) + dy) = some (U.map fun p => ((p : Nat) : Int))) (pU : ∀ p ∈ U, p ≤ 60)
    (hD : rayO F R (-dx) (-dy) 20 (((sq % F : Nat) : Int) + -dx) (((sq / F : Nat) : Int) + -dy) = some (D.map fun p => ((p : Nat) : Int))) (pD : ∀ p ∈ D, p ≤ 60)
    (ha : m[a]? = some (.list xs)) (hb : m[b]? = some (.list ys)) (hab : a ≠ b) (hx : xs.length ≤ 1000) (hy : ys.length ≤ 1000) (ga : M0.length ≤ a) (gb : M0.length ≤ b) {z13 z14 : Option V} :
    ∃ x13 x14 x15 x16 x17 m', (setSlot [a0, a1, some (.int (F : Nat)), some (.int (R : Nat)), a4, a5, a6, a7, some (.int (sq : Nat)), some (.int (men : Nat)), some (.ref a), some (.ref b), a12, z13, z14, a15, a16, a17, a18, a19, a20, a21] 12 (.ref q)).bind (fun l => exs glbG (Sm 12) pairBody (l, m)) =
      some (.next, ([a0, a1, some (.int (F : Nat)), some (.int (R : Nat)), a4, a5, a6, a7, some (.int (sq : Nat)), some (.int (men : Nat)), some (.ref a), some (.ref b), some (.ref q), x13, x14, x15, x16, x17, a18, a19, a20, a21], m')) ∧
      m'[a]? = some (.list (xs ++ [.int ((sumB U + sumB D : Nat) : Int)])) ∧ m'[b]? = some (.list (ys ++ [.int ((seenN men U D : Nat) : Int)])) ∧ M0 <+: m' := by
  obtain ⟨x16, x17, e1⟩ := way_step (m := m) (men := men) (a0 := a0) (a1 := a1) (a4 := a4) (a5 := a5) (a6 := a6) (a7 := a7) (a10 := some (.ref a)) (a11 := some (.ref b)) (a12 := some (.ref q)) (a15 := a15) (a16 := a16) (a17 := a17) (a18 := a18) (a19 := a19) (a20 := a20) (a21 := a21) (e := 0) (r := 0) hF hF2 hR (pre_at pm h1) hU pU
  have pm1 : M0 <+: m ++ [O.list (U.map fun p => V.int (p : Nat))] := pm.trans (List.prefix_append _ _)
  obtain ⟨y16, y17, e2⟩ := way_step (men := men) (a0 := a0) (a1 := a1) (a4 := a4) (a5 := a5) (a6 := a6) (a7 := a7) (a10 := some (.ref a)) (a11 := some (.ref b)) (a12 := some (.ref q)) (a15 := some (.ref w1)) (a16 := x16) (a17 := x17) (a18 := a18) (a19 := a19) (a20 := a20) (a21 := a21) (e := 0 + sumB U) (r := 0 + sumB (reachL men U)) hF hF2 hR (pre_at pm1 h2) hD pD
  have pm2 : M0 <+: (m ++ [O.list (U.map fun p => V.int (p : Nat))]) ++ [O.list (D.map fun p => V.int (p : Nat))] := pm1.trans (List.prefix_append _ _)
  generalize hm2 : (m ++ [O.list (U.map fun p => V.int (p : Nat))]) ++ [O.list (D.map fun p => V.int (p : Nat))] = m2 at e2 pm2
  have ha2 : m2[a]? = some (.list xs) := by rw [← hm2]; exact in_old (in_old ha)
  have hb2 : m2[b]? = some (.list ys) := by rw [← hm2]; exact in_old (in_old hb)
  have la : a < m2.length := (List.getElem?_eq_some_iff.mp ha2).1
  have lb : b < m2.length := (List.getElem?_eq_some_iff.mp hb2).1
  have hE : 0 + sumB U + sumB D = sumB U + sumB D := by omega
  have hS : 0 + sumB (reachL men U) + sumB (reachL men D) = seenN men U D := by unfold seenN; omega
  rw [hE, hS] at e2
  have hb3 : (m2.set a (.list (xs ++ [.int ((sumB U + sumB D : Nat) : Int)])))[b]? = some (.list ys) := by rw [List.getElem?_set_ne hab]; exact hb2
  refine ⟨some (.int ((sumB U + sumB D : Nat) : Int)), some (.int ((seenN men U D : Nat) : Int)), some (.ref w2), y16, y17, (m2.set a (.list (xs ++ [.int ((sumB U + sumB D : Nat) : Int)]))).set b (.list (ys ++ [.int ((seenN men U D : Nat) : Int)])), ?_, ?_, ?_, set_pre (set_pre pm2 ga) gb⟩
  · rw [setSlot_ok (by simp), Option.bind_some]
    refine exs_cons (ex_asg ev_lit rfl) (exs_cons (ex_asg ev_lit rfl) (exs_cons (ex_for_tup (ev_loc rfl) (pre_at pm hq) (forS_step (tupAt_of (pre_at pm hq)) rfl e1 (forS_step (tupAt_of (pre_at pm1 hq)) rfl e2 (forS_done (tupAt_of (pre_at pm2 hq)) rfl)))) ?_))
    exact exs_cons (ex_app (ev_loc rfl) ha2 (ev_loc rfl) ha2 hx) (exs_cons (ex_app (ev_loc rfl) hb3 (ev_loc rfl) hb3 hy) exs_nil)
  · rw [List.getElem?_set_ne (Ne.symm hab), List.getElem?_set_self la]
  · rw [List.getElem?_set_self (by rw [List.length_set]; exact lb)]
end
end Mine
end
section
open PySem
namespace Mine

noncomputable abbrev kBody : List S := [
      .ite (.cmp .ne (.call 4 [.loc 5, .loc 8, .idx (.loc 18) (.loc 19), .loc 9]) (.idx (.loc 11) (.loc 19))) [
        .ret (.tt false)] [],
      .ite (.cmp .ne (.call 5 [.loc 5, .loc 8, .idx (.loc 18) (.loc 19), .loc 9]) (.idx (.loc 11) (.loc 19))) [
        .ret (.tt false)] []]
noncomputable abbrev turnBody : List S := [
    .asg 8 (.bin .mod (.idx (.loc 1) (.loc 7)) (.loc 4)),
    .asg 9 (.bin .mod (.idx (.loc 1) (.bin .add (.loc 7) (.lit 1))) (.bin .pow (.lit 2) (.loc 4))),
    .asg 10 (.list []),
    .asg 11 (.list []),
    .for 12 (.loc 6) pairBody,
    .asg 18 (.call 2 [.loc 5, .loc 8]),
    .ite (.tne (.loc 18) (.tup [.idx (.loc 10) (.lit 0), .idx (.loc 10) (.lit 1), .idx (.loc 10) (.lit 2), .idx (.loc 10) (.lit 3)])) [
      .ret (.tt false)] [],
    .for 19 (.range [.lit 4]) kBody,
    .asg 20 (.bin .add (.idx (.loc 11) (.lit 0)) (.idx (.loc 11) (.lit 1))),
    .asg 21 (.bin .add (.idx (.loc 11) (.lit 2)) (.idx (.loc 11) (.lit 3))),
    .ite (.or (.cmp .ne (.call 8 [.loc 5, .gint 1, .loc 8, .loc 9]) (.loc 20)) (.cmp .ne (.call 9 [.loc 5, .loc 8, .loc 9]) (.loc 20))) [
      .ret (.tt false)] [],
    .ite (.or (.cmp .ne (.call 8 [.loc 5, .gint 0, .loc 8, .loc 9]) (.loc 21)) (.cmp .ne (.call 10 [.loc 5, .loc 8, .loc 9]) (.loc 21))) [
      .ret (.tt false)] [],
    .ite (.cmp .ne (.call 8 [.loc 5, .gint 2, .loc 8, .loc 9]) (.bin .add (.loc 20) (.loc 21))) [
      .ret (.tt false)] []]

section
variable {F R sq men g : Nat} {U D : Nat → List Nat} {a0 a1 a4 a6 a7 a10 a12 a13 a14 a15 a16 a17 a19 a20 a21 : Option V}
theorem k_step {m M0 : Mem} {t b k : Nat} {vs ys : List V} (B : Board F R sq U D) (H : Geo g F R M0) (pm : M0 <+: m) (ht : m[t]? = some (.tup vs)) (hb : m[b]? = some (.list ys)) (hk : k < 4)
    (hv : vs[k]? = some (.int ((lineM F R sq k : Nat) : Int))) (hy : ys[k]? = some (.int ((sk men U D k : Nat) : Int))) :
    ∃ m', (setSlot [a0, a1, some (.int (F : Nat)), some (.int (R : Nat)), a4, some (.ref g), a6, a7, some (.int (sq : Nat)), some (.int (men : Nat)), a10, some (.ref b), a12, a13, a14, a15, a16, a17, some (.ref t), a19, a20, a21] 19 (.int (k : Nat))).bind (fun l => exs glbG (Sm 12) kBody (l, m)) =
      some (.next, ([a0, a1, some (.int (F : Nat)), some (.int (R : Nat)), a4, some (.ref g), a6, a7, some (.int (sq : Nat)), some (.int (men : Nat)), a10, some (.ref b), a12, a13, a14, a15, a16, a17, some (.ref t), some (.int (k : Nat)), a20, a21], m')) ∧ m <+: m' := by
  obtain ⟨m1, h1, p1⟩ := att_line (men := men) (n := 10) B (H.mono pm) hk
  have h2 := obs_line (men := men) (n := 10) B (H.mono (pm.trans p1)) hk
  refine ⟨m1, ?_, p1⟩
  rw [setSlot_ok (by simp), Option.bind_some]
  have hp := place_nat (k := k) (by omega)
  exact exs_cons (ex_ite_f (evT_cmp (ev_call (evs_cons (ev_loc rfl) (evs_cons (ev_loc rfl) (evs_cons (ev_idx (ev_loc rfl) (ev_loc rfl) (tup_seq ht) hp hv) (evs_cons (ev_loc rfl) evs_nil)))) h1) (ev_idx (ev_loc rfl) (ev_loc rfl) (list_seq (pre_at p1 hb)) hp hy) ne_self) exs_nil) (
    exs_cons (ex_ite_f (evT_cmp (ev_call (evs_cons (ev_loc rfl) (evs_cons (ev_loc rfl) (evs_cons (ev_idx (ev_loc rfl) (ev_loc rfl) (tup_seq (pre_at p1 ht)) hp hv) (evs_cons (ev_loc rfl) evs_nil)))) h2) (ev_idx (ev_loc rfl) (ev_loc rfl) (list_seq (pre_at p1 hb)) hp hy) ne_self) exs_nil) exs_nil)

/-- what stands between the turns -/
noncomputable def LawL (a0 : Option V) (s F R g wl : Nat) (l : Loc) : Prop := ∃ y7 y8 y9 y10 y11 y12 y13 y14 y15 y16 y17 y18 y19 y20 y21, l = [a0, some (.ref s), some (.int (F : Nat)), some (.int (R : Nat)), some (.int ((F * R : Nat) : Int)), some (.ref g), some (.ref wl), y7, y8, y9, y10, y11, y12, y13, y14, y15, y16, y17, y18, y19, y20, y21]

theorem turn {m M0 : Mem} {s wl c : Nat} {zs : List Int} {z0 z1 : Int} {l : Loc} (B : Board F R sq U D) (Y : Rays F R sq U D) (H : Geo g F R M0) (W : Ways wl M0) (hs : M0[s]? = some (.list (zs.map V.int))) (hc : c < 1000)
    (h0 : zs[c]? = some z0) (h1 : zs[c + 1]? = some z1) (hsq : z0.fmod ((F * R : Nat) : Int) = (sq : Nat)) (hmen : z1.fmod ((2 ^ (F * R) : Nat) : Int) = (men : Nat)) (pm : M0 <+: m) (L : LawL a0 s F R g wl l) :
    ∃ l' m', (setSlot l 7 (.int (c : Nat))).bind (fun l => exs glbG (Sm 12) turnBody (l, m)) = some (.next, (l', m')) ∧ LawL a0 s F R g wl l' ∧ M0 <+: m' := by
  obtain ⟨y7, y8, y9, y10, y11, y12, y13, y14, y15, y16, y17, y18, y19, y20, y21, rfl⟩ := L
  obtain ⟨q, u, d, hwl, hW⟩ := W
  have hsz := B.sz
  have hF1 := B.F1
  have hF2 := B.F2
  have hR1 := B.R1
  have hR2 := B.R2
  have hpos := B.ok
  have bU : ∀ k, k < 4 → ∀ p ∈ U k, p ≤ 60 := fun k hk p hp => by have := ((B.line k hk).hi p hp).2; omega
  have bD : ∀ k, k < 4 → ∀ p ∈ D k, p ≤ 60 := fun k hk p hp => by have := (B.line k hk).lo p hp; omega
  have hmk : ∀ k, k < 4 → lineM F R sq k = sumB (U k) + sumB (D k) := fun k hk => by rw [B.mask k hk, sumB_append]
  -- square, men
  have hi0 : ibin .mod z0 ((F * R : Nat) : Int) = some ((sq : Nat) : Int) := by
    have : (((F * R : Nat) : Int) != 0) = true := by rw [bne_iff_ne]; omega
    simp only [ibin, this, if_true, hsq]
  have hi1 : ibin .mod z1 ((2 ^ (F * R) : Nat) : Int) = some ((men : Nat) : Int) := by
    have hp := Nat.two_pow_pos (F * R)
    have : (((2 ^ (F * R) : Nat) : Int) != 0) = true := by rw [bne_iff_ne]; omega
    simp only [ibin, this, if_true, hmen]
  have hz0 : (zs.map V.int)[c]? = some (.int z0) := by rw [List.getElem?_map, h0]; rfl
  have hz1 : (zs.map V.int)[c + 1]? = some (.int z1) := by rw [List.getElem?_map, h1]; rfl
  have hm1 := pre_at pm hs
  have hpow := ipow_nat (k := F * R) (by omega)
  have hmA : m <+: (m ++ [O.list []]) ++ [O.list []] := (List.prefix_append _ _).trans (List.prefix_append _ _)
  have pA : M0 <+: (m ++ [O.list []]) ++ [O.list []] := pm.trans hmA
  have la : ((m ++ [O.list []]) ++ [O.list []])[m.length]? = some (.list []) := in_old last_at
  have lb : ((m ++ [O.list []]) ++ [O.list []])[m.length + 1]? = some (.list []) := by simp
  have ga : M0.length ≤ m.length := pm.length_le
  obtain ⟨b13, b14, b15, b16, b17, mB, eB, laB, lbB, pB⟩ := pair_step (men := men) (a0 := a0) (a1 := some (.ref s)) (a4 := some (.int ((F * R : Nat) : Int))) (a5 := some (.ref g)) (a6 := some (.ref wl)) (a7 := some (.int (c : Nat))) (a12 := y12) (a15 := y15) (a16 := y16) (a17 := y17) (a18 := y18) (a19 := y19) (a20 := y20) (a21 := y21) (z13 := y13) (z14 := y14)
    (by omega) (by omega) (by omega) pA (hW 0 (by decide)).1 (hW 0 (by decide)).2.1 (hW 0 (by decide)).2.2 (Y.up 0 (by decide)) (bU 0 (by decide)) (Y.dn 0 (by decide)) (bD 0 (by decide)) la lb (by omega) (by simp) (by simp) ga (by omega)
  obtain ⟨c13, c14, c15, c16, c17, mC, eC, laC, lbC, pC⟩ := pair_step (men := men) (a0 := a0) (a1 := some (.ref s)) (a4 := some (.int ((F * R : Nat) : Int))) (a5 := some (.ref g)) (a6 := some (.ref wl)) (a7 := some (.int (c : Nat))) (a12 := some (.ref (q 0))) (a15 := b15) (a16 := b16) (a17 := b17) (a18 := y18) (a19 := y19) (a20 := y20) (a21 := y21) (z13 := b13) (z14 := b14)
    (by omega) (by omega) (by omega) pB (hW 1 (by decide)).1 (hW 1 (by decide)).2.1 (hW 1 (by decide)).2.2 (Y.up 1 (by decide)) (bU 1 (by decide)) (Y.dn 1 (by decide)) (bD 1 (by decide)) laB lbB (by omega) (by simp) (by simp) ga (by omega)
  obtain ⟨d13, d14, d15, d16, d17, mD, eD, laD, lbD, pD⟩ := pair_step (men := men) (a0 := a0) (a1 := some (.ref s)) (a4 := some (.int ((F * R : Nat) : Int))) (a5 := some (.ref g)) (a6 := some (.ref wl)) (a7 := some (.int (c : Nat))) (a12 := some (.ref (q 1))) (a15 := c15) (a16 := c16) (a17 := c17) (a18 := y18) (a19 := y19) (a20 := y20) (a21 := y21) (z13 := c13) (z14 := c14)
    (by omega) (by omega) (by omega) pC (hW 2 (by decide)).1 (hW 2 (by decide)).2.1 (hW 2 (by decide)).2.2 (Y.up 2 (by decide)) (bU 2 (by decide)) (Y.dn 2 (by decide)) (bD 2 (by decide)) laC lbC (by omega) (by simp) (by simp) ga (by omega)
  obtain ⟨f13, f14, f15, f16, f17, mE, eE, laE, lbE, pE⟩ := pair_step (men := men) (a0 := a0) (a1 := some (.ref s)) (a4 := some (.int ((F * R : Nat) : Int))) (a5 := some (.ref g)) (a6 := some (.ref wl)) (a7 := some (.int (c : Nat))) (a12 := some (.ref (q 2))) (a15 := d15) (a16 := d16) (a17 := d17) (a18 := y18) (a19 := y19) (a20 := y20) (a21 := y21) (z13 := d13) (z14 := d14)
    (by omega) (by omega) (by omega) pD (hW 3 (by decide)).1 (hW 3 (by decide)).2.1 (hW 3 (by decide)).2.2 (Y.up 3 (by decide)) (bU 3 (by decide)) (Y.dn 3 (by decide)) (bD 3 (by decide)) laD lbD (by omega) (by simp) (by simp) ga (by omega)
  rw [← hmk 0 (by decide), ← hmk 1 (by decide), ← hmk 2 (by decide), ← hmk 3 (by decide)] at laE
  -- the masks
  obtain ⟨mF, t, eF, qF, ht⟩ := masks_run (n := 11) B (H.mono pE)
  have laF := pre_at qF laE
  have lbF := pre_at qF lbE
  have pF := pE.trans qF
  generalize hvs : ([.int ((lineM F R sq 0 : Nat) : Int), .int ((lineM F R sq 1 : Nat) : Int), .int ((lineM F R sq 2 : Nat) : Int), .int ((lineM F R sq 3 : Nat) : Int)] : List V) = vs at ht
  have hG : mF <+: mF ++ [O.tup vs] := List.prefix_append _ _
  have hR : mF <+: (mF ++ [O.tup vs]) ++ [O.range 0 4 1] := hG.trans (List.prefix_append _ _)
  have htR := pre_at hR ht
  have lbR := pre_at hR lbF
  have pR := pF.trans hR
  obtain ⟨m0, e0, q0⟩ := k_step (men := men) (k := 0) (a0 := a0) (a1 := some (.ref s)) (a4 := some (.int ((F * R : Nat) : Int))) (a6 := some (.ref wl)) (a7 := some (.int (c : Nat))) (a10 := some (.ref m.length)) (a12 := some (.ref (q 3))) (a13 := f13) (a14 := f14) (a15 := f15) (a16 := f16) (a17 := f17) (a19 := y19) (a20 := y20) (a21 := y21) B H pR htR lbR (by decide) (by rw [← hvs]; rfl) rfl
  obtain ⟨m1, e1, q1⟩ := k_step (men := men) (k := 1) (a0 := a0) (a1 := some (.ref s)) (a4 := some (.int ((F * R : Nat) : Int))) (a6 := some (.ref wl)) (a7 := some (.int (c : Nat))) (a10 := some (.ref m.length)) (a12 := some (.ref (q 3))) (a13 := f13) (a14 := f14) (a15 := f15) (a16 := f16) (a17 := f17) (a19 := some (.int ((0 : Nat) : Int))) (a20 := y20) (a21 := y21) B H (pR.trans q0) (pre_at q0 htR) (pre_at q0 lbR) (by decide) (by rw [← hvs]; rfl) rfl
  have q1' := q0.trans q1
  obtain ⟨m2, e2, q2⟩ := k_step (men := men) (k := 2) (a0 := a0) (a1 := some (.ref s)) (a4 := some (.int ((F * R : Nat) : Int))) (a6 := some (.ref wl)) (a7 := some (.int (c : Nat))) (a10 := some (.ref m.length)) (a12 := some (.ref (q 3))) (a13 := f13) (a14 := f14) (a15 := f15) (a16 := f16) (a17 := f17) (a19 := some (.int ((1 : Nat) : Int))) (a20 := y20) (a21 := y21) B H (pR.trans q1') (pre_at q1' htR) (pre_at q1' lbR) (by decide) (by rw [← hvs]; rfl) rfl
  have q2' := q1'.trans q2
  obtain ⟨m3, e3, q3⟩ := k_step (men := men) (k := 3) (a0 := a0) (a1 := some (.ref s)) (a4 := some (.int ((F * R : Nat) : Int))) (a6 := some (.ref wl)) (a7 := some (.int (c : Nat))) (a10 := some (.ref m.length)) (a12 := some (.ref (q 3))) (a13 := f13) (a14 := f14) (a15 := f15) (a16 := f16) (a17 := f17) (a19 := some (.int ((2 : Nat) : Int))) (a20 := y20) (a21 := y21) B H (pR.trans q2') (pre_at q2' htR) (pre_at q2' lbR) (by decide) (by rw [← hvs]; rfl) rfl
  have q3' := q2'.trans q3
  have lb3 := pre_at q3' lbR
  have p3 := pR.trans q3'
  -- rook, bishop, queen
  obtain ⟨m4, e4, q4⟩ := attacks_rook (men := men) (n := 8) B (H.mono p3)
  have p4 := p3.trans q4
  obtain ⟨m5, e5, q5⟩ := orook_run (men := men) (n := 9) B (H.mono p4)
  have p5 := p4.trans q5
  obtain ⟨m6, e6, q6⟩ := attacks_bishop (men := men) (n := 8) B (H.mono p5)
  have p6 := p5.trans q6
  obtain ⟨m7, e7, q7⟩ := obishop_run (men := men) (n := 9) B (H.mono p6)
  have p7 := p6.trans q7
  obtain ⟨m8, e8, q8⟩ := attacks_queen (men := men) (n := 8) B (H.mono p7)
  have p8 := p7.trans q8
  refine ⟨_, m8, ?_, ⟨some (.int (c : Nat)), some (.int (sq : Nat)), some (.int (men : Nat)), some (.ref m.length), some (.ref (m.length + 1)), some (.ref (q 3)), f13, f14, f15, f16, f17, some (.ref t), some (.int ((3 : Nat) : Int)), some (.int ((sk men U D 0 + sk men U D 1 : Nat) : Int)), some (.int ((sk men U D 2 + sk men U D 3 : Nat) : Int)), rfl⟩, p8⟩
  rw [setSlot_ok (by simp), Option.bind_some]
  refine exs_cons (ex_asg (ev_bin (ev_idx (ev_loc rfl) (ev_loc rfl) (list_seq hm1) (place_nat (by omega)) hz0) (ev_loc rfl) hi0) rfl) ?_
  refine exs_cons (ex_asg (ev_bin (ev_idx (ev_loc rfl) (ev_bin (ev_loc rfl) ev_lit rfl) (list_seq hm1) (place_nat (k := c + 1) (by omega)) hz1) (ev_bin ev_lit (ev_loc rfl) hpow) hi1) rfl) ?_
  refine exs_cons (ex_asg (ev_list evs_nil (by decide)) rfl) ?_
  refine exs_cons (ex_asg (ev_list evs_nil (by decide)) (l' := [a0, some (.ref s), some (.int (F : Nat)), some (.int (R : Nat)), some (.int ((F * R : Nat) : Int)), some (.ref g), some (.ref wl), some (.int (c : Nat)), some (.int (sq : Nat)), some (.int (men : Nat)), some (.ref m.length), some (.ref (m.length + 1)), y12, y13, y14, y15, y16, y17, y18, y19, y20, y21]) (by rw [List.length_append]; rfl)) ?_
  refine exs_cons (ex_for_list (ev_loc rfl) (pre_at pA hwl) (forS_step (listAt_of (pre_at pA hwl)) rfl eB (forS_step (listAt_of (pre_at pB hwl)) rfl eC (forS_step (listAt_of (pre_at pC hwl)) rfl eD (forS_step (listAt_of (pre_at pD hwl)) rfl eE (forS_done (listAt_of (pre_at pE hwl)) rfl)))))) ?_
  refine exs_cons (ex_asg (ev_call (evs_cons (ev_loc rfl) (evs_cons (ev_loc rfl) evs_nil)) eF) rfl) ?_
  refine exs_cons (ex_ite_f (evT_tne_f (us := vs) (ns := [((lineM F R sq 0 : Nat) : Int), ((lineM F R sq 1 : Nat) : Int), ((lineM F R sq 2 : Nat) : Int), ((lineM F R sq 3 : Nat) : Int)]) (ev_loc rfl)
      (ev_tup (vs := vs) (by rw [← hvs]; exact evs_cons (ev_idx (ev_loc rfl) ev_lit (list_seq laF) rfl rfl) (evs_cons (ev_idx (ev_loc rfl) ev_lit (list_seq laF) rfl rfl) (evs_cons (ev_idx (ev_loc rfl) ev_lit (list_seq laF) rfl rfl) (evs_cons (ev_idx (ev_loc rfl) ev_lit (list_seq laF) rfl rfl) evs_nil)))) (by rw [← hvs]; simp)) (pre_at hG ht) last_at (by rw [← hvs]; rfl)) exs_nil) ?_
  refine exs_cons (ex_for_range (k := 4) (ev_range (evs_cons ev_lit evs_nil) rfl) last_at (forL_step e0 (forL_step e1 (forL_step e2 (forL_step e3 rfl))))) ?_
  refine exs_cons (ex_asg (ev_bin (ev_idx (ev_loc rfl) ev_lit (list_seq lb3) rfl rfl) (ev_idx (ev_loc rfl) ev_lit (list_seq lb3) rfl rfl) rfl) rfl) ?_
  refine exs_cons (ex_asg (ev_bin (ev_idx (ev_loc rfl) ev_lit (list_seq lb3) rfl rfl) (ev_idx (ev_loc rfl) ev_lit (list_seq lb3) rfl rfl) rfl) rfl) ?_
  refine exs_cons (ex_ite_f (evT_or_f (evT_cmp (ev_call (evs_cons (ev_loc rfl) (evs_cons (ev_gint rfl) (evs_cons (ev_loc rfl) (evs_cons (ev_loc rfl) evs_nil)))) e4) (ev_loc rfl) ne_self) (evT_cmp (ev_call (evs_cons (ev_loc rfl) (evs_cons (ev_loc rfl) (evs_cons (ev_loc rfl) evs_nil))) e5) (ev_loc rfl) ne_self)) exs_nil) ?_
  refine exs_cons (ex_ite_f (evT_or_f (evT_cmp (ev_call (evs_cons (ev_loc rfl) (evs_cons (ev_gint rfl) (evs_cons (ev_loc rfl) (evs_cons (ev_loc rfl) evs_nil)))) e6) (ev_loc rfl) ne_self) (evT_cmp (ev_call (evs_cons (ev_loc rfl) (evs_cons (ev_loc rfl) (evs_cons (ev_loc rfl) evs_nil))) e7) (ev_loc rfl) ne_self)) exs_nil) ?_
  exact exs_cons (ex_ite_f (evT_cmp (ev_call (evs_cons (ev_loc rfl) (evs_cons (ev_gint rfl) (evs_cons (ev_loc rfl) (evs_cons (ev_loc rfl) evs_nil)))) e8) (ev_bin (ev_loc rfl) (ev_loc rfl) rfl) ne_self) exs_nil) exs_nil
end
end Mine
end
section
open PySem
namespace Mine

noncomputable def LawTrue' : Prop := ∀ ns : List Int, ns.length ≤ 63 → ∃ st', exs glbG (sem glbG fns 12) fLaw.body ([some (.ext ns)] ++ List.replicate 21 none, []) = some (.ret (.bool true), st')

theorem ex_for_rng {G : Glb} {Γ : Orc} {l : Loc} {m m1 : Mem} {x : Nat} {it : E} {b : List S} {i : Nat} {p q c : Int} {r : Option (Fl × St)} (h : ev G Γ l it m = some (.ref i, m1)) (hi : m1[i]? = some (.range p q c))
    (hl : forL (fun v st => (setSlot st.1 x v).bind fun l => exs G Γ b (l, st.2)) (rangeItems p q c) (l, m1) = r) : ex G Γ (.for x it b) (l, m) = r := by
  have hlen : (Builtin.Range.rangeSize p q c).toNat + 1 = (rangeItems p q c).length + 1 := by simp [rangeItems]
  simp only [ex, h, Option.bind_some, hi]
  rw [forS_const hlen, hl]

/-- the turns' places -/
theorem places {n : Nat} (h1 : 4 ≤ n) (h2 : n ≤ 8) : ∃ cs : List Nat, rangeItems 2 ((n : Int) - 1) 2 = cs.map (fun c => V.int (c : Nat)) ∧ mkRange [.int 2, .int ((n : Int) - 1), .int 2] = some (.range 2 ((n : Int) - 1) 2) ∧ ∀ c ∈ cs, c < 1000 ∧ c + 1 < n := by
  have : n = 4 ∨ n = 5 ∨ n = 6 ∨ n = 7 ∨ n = 8 := by omega
  rcases this with rfl | rfl | rfl | rfl | rfl
  · exact ⟨[2], rfl, rfl, by decide⟩
  · exact ⟨[2], rfl, rfl, by decide⟩
  · exact ⟨[2, 4], rfl, rfl, by decide⟩
  · exact ⟨[2, 4], rfl, rfl, by decide⟩
  · exact ⟨[2, 4, 6], rfl, rfl, by decide⟩

theorem turns {F R g s wl : Nat} {U D : Nat → Nat → List Nat} {M0 : Mem} {zs : List Int} {a0 : Option V} (HB : ∀ sq, sq < F * R → Board F R sq (U sq) (D sq) ∧ Rays F R sq (U sq) (D sq)) (hpos : 0 < F * R)
    (H : Geo g F R M0) (W : Ways wl M0) (hs : M0[s]? = some (.list (zs.map V.int))) : ∀ (cs : List Nat), (∀ c ∈ cs, c < 1000 ∧ c + 1 < zs.length) → ∀ (l : Loc) (m : Mem), LawL a0 s F R g wl l → M0 <+: m →
    ∃ st', forL (fun v st => (setSlot st.1 7 v).bind fun l => exs glbG (Sm 12) turnBody (l, st.2)) (cs.map fun c => V.int (c : Nat)) (l, m) = some (.next, st')
  | [], _, l, m, _, _ => ⟨(l, m), rfl⟩
  | c :: cs, hc, l, m, L, pm => by
    obtain ⟨h1, h2⟩ := hc c (.head _)
    have e0 : zs[c]? = some zs[c] := List.getElem?_eq_getElem (by omega)
    have e1 : zs[c + 1]? = some zs[c + 1] := List.getElem?_eq_getElem h2
    have n0 := Int.fmod_nonneg_of_pos zs[c] (b := ((F * R : Nat) : Int)) (by omega)
    have l0 := Int.fmod_lt_of_pos zs[c] (b := ((F * R : Nat) : Int)) (by omega)
    have hp := Nat.two_pow_pos (F * R)
    have n1 := Int.fmod_nonneg_of_pos zs[c + 1] (b := ((2 ^ (F * R) : Nat) : Int)) (by omega)
    obtain ⟨B, Y⟩ := HB (zs[c].fmod ((F * R : Nat) : Int)).toNat (by omega)
    obtain ⟨l', m', h, L', p'⟩ := turn (men := (zs[c + 1].fmod ((2 ^ (F * R) : Nat) : Int)).toNat) B Y H W hs h1 e0 e1 (by omega) (by omega) pm L
    obtain ⟨st', h'⟩ := turns HB hpos H W hs cs (fun d hd => hc d (.tail _ hd)) l' m' L' p'
    exact ⟨st', forL_step h h'⟩

noncomputable abbrev waysE : E := .list [.tup [.tup [.lit 1, .lit 0], .tup [.neg (.lit 1), .lit 0]], .tup [.tup [.lit 0, .lit 1], .tup [.lit 0, .neg (.lit 1)]], .tup [.tup [.lit 1, .lit 1], .tup [.neg (.lit 1), .neg (.lit 1)]], .tup [.tup [.neg (.lit 1), .lit 1], .tup [.lit 1, .neg (.lit 1)]]]
noncomputable def waysM (N : Nat) : Mem := [.tup [.int 1, .int 0], .tup [.int (-1), .int 0], .tup [.ref N, .ref (N + 1)], .tup [.int 0, .int 1], .tup [.int 0, .int (-1)], .tup [.ref (N + 3), .ref (N + 4)],
  .tup [.int 1, .int 1], .tup [.int (-1), .int (-1)], .tup [.ref (N + 6), .ref (N + 7)], .tup [.int (-1), .int 1], .tup [.int 1, .int (-1)], .tup [.ref (N + 9), .ref (N + 10)], .list [.ref (N + 2), .ref (N + 5), .ref (N + 8), .ref (N + 11)]]
theorem ways_run {G : Glb} {Γ : Orc} {l : Loc} {M : Mem} : ev G Γ l waysE M = some (.ref (M.length + 12), M ++ waysM M.length) := by
  simp [ev, evs, waysM]
theorem ways_ok {M : Mem} : Ways (M.length + 12) (M ++ waysM M.length) := by
  refine ⟨fun k => M.length + (3 * k + 2), fun k => M.length + 3 * k, fun k => M.length + (3 * k + 1), ?_, fun k hk => ?_⟩
  · rw [List.getElem?_append_right (Nat.le_add_right _ _), Nat.add_sub_cancel_left]
    rfl
  · rw [List.getElem?_append_right (Nat.le_add_right _ _), Nat.add_sub_cancel_left, List.getElem?_append_right (Nat.le_add_right _ _), Nat.add_sub_cancel_left, List.getElem?_append_right (Nat.le_add_right _ _), Nat.add_sub_cancel_left]
    have : k = 0 ∨ k = 1 ∨ k = 2 ∨ k = 3 := by omega
    rcases this with rfl | rfl | rfl | rfl <;> exact ⟨rfl, rfl, rfl⟩

theorem ev_len_list {G : Glb} {Γ : Orc} {l : Loc} {m m1 : Mem} {a : E} {i : Nat} {vs : List V} (h : ev G Γ l a m = some (.ref i, m1)) (hi : m1[i]? = some (.list vs)) (hl : vs.length ≤ 1000) : ev G Γ l (.len a) m = some (.int (vs.length : Nat), m1) := by
  simp only [ev, h, Option.bind_some, hi, if_pos hl]

theorem start_run {Γ : Orc} {ns : List Int} (h : ns.length ≤ 63) {t : List (Option V)} : ev glbG Γ (some (.ext ns) :: t) (.cat (.take (.loc 0) 8) (.rep (.lit 0) (.bin .sub (.lit 4) (.len (.loc 0))))) [] =
    some (.ref 3, [.list ((ns.take 8).map V.int), .list [.int 0], .list (List.replicate ((4 : Int) - (ns.length : Int)).toNat (.int 0)), .list ((ns.take 8 ++ List.replicate ((4 : Int) - (ns.length : Int)).toNat 0).map V.int)]) := by
  have h1 : ns.length ≤ 1000 := by omega
  have h2 : (decide ((4 : Int) - (ns.length : Int) < 1000) && decide (-1000 < (4 : Int) - (ns.length : Int))) = true := by
    rw [Bool.and_eq_true, decide_eq_true_eq, decide_eq_true_eq]; omega
  have h3 : ((ns.take 8).map V.int).length + (List.replicate ((4 : Int) - (ns.length : Int)).toNat (V.int 0)).length ≤ 1000 := by
    simp only [List.length_map, List.length_take, List.length_replicate]; omega
  simp only [ev, List.getElem?_cons_zero, List.getElem?_cons_succ, Option.bind_some, Option.map_some, vbin, ibin, if_pos h1, Nat.reduceLeDiff, if_true, List.nil_append, List.cons_append, List.length_cons, List.length_nil, Nat.zero_add, Nat.reduceAdd, h2, if_pos h3, List.map_append, List.map_replicate]

noncomputable def GeoAll : Prop := ∀ F R : Nat, 2 ≤ F → F ≤ 5 → 3 ≤ R → R ≤ 6 → ∀ c0 c1 c2 c3 : O, ∃ M, sem glbG fns 12 18 [.int (F : Nat), .int (R : Nat), .bool false, .bool false] [c0, c1, c2, c3] = some (.ref 5, M) ∧ Geo 5 F R M ∧ M[3]? = some c3
noncomputable def BoardAll : Prop := ∀ F R : Nat, 2 ≤ F → F ≤ 5 → 3 ≤ R → R ≤ 6 → ∃ U D : Nat → Nat → List Nat, ∀ sq, sq < F * R → Board F R sq (U sq) (D sq) ∧ Rays F R sq (U sq) (D sq)

theorem law_true (HG : GeoAll) (HB : BoardAll) : LawTrue' := by
  intro ns hl
  have hs := start_run (Γ := Sm 12) hl (t := List.replicate 21 none)
  generalize hzs : ns.take 8 ++ List.replicate ((4 : Int) - (ns.length : Int)).toNat 0 = zs at hs
  have l1 : 4 ≤ zs.length ∧ zs.length ≤ 8 := by
    rw [← hzs, List.length_append, List.length_take, List.length_replicate]; omega
  generalize O.list ((ns.take 8).map V.int) = c0 at hs
  generalize O.list [V.int 0] = c1 at hs
  generalize O.list (List.replicate ((4 : Int) - (ns.length : Int)).toNat (V.int 0)) = c2 at hs
  have e0 : zs[0]? = some zs[0] := List.getElem?_eq_getElem (by omega)
  have e1 : zs[1]? = some zs[1] := List.getElem?_eq_getElem (by omega)
  have n0 := Int.fmod_nonneg_of_pos zs[0] (b := 4) (by decide)
  have m0 := Int.fmod_lt_of_pos zs[0] (b := 4) (by decide)
  have n1 := Int.fmod_nonneg_of_pos zs[1] (b := 4) (by decide)
  have m1 := Int.fmod_lt_of_pos zs[1] (b := 4) (by decide)
  obtain ⟨F, hF⟩ : ∃ F : Nat, 2 + zs[0].fmod 4 = (F : Int) := ⟨(2 + zs[0].fmod 4).toNat, by omega⟩
  obtain ⟨R, hR⟩ : ∃ R : Nat, 3 + zs[1].fmod 4 = (R : Int) := ⟨(3 + zs[1].fmod 4).toNat, by omega⟩
  have iF : ibin .add 2 (zs[0].fmod 4) = some (F : Int) := by rw [← hF]; rfl
  have iR : ibin .add 3 (zs[1].fmod 4) = some (R : Int) := by rw [← hR]; rfl
  obtain ⟨M, hg, G, h3⟩ := HG F R (by omega) (by omega) (by omega) (by omega) c0 c1 c2 (.list (zs.map V.int))
  obtain ⟨U, D, B⟩ := HB F R (by omega) (by omega) (by omega) (by omega)
  have hsz : F * R ≤ 30 := Nat.mul_le_mul (show F ≤ 5 by omega) (show R ≤ 6 by omega)
  have hpos : 0 < F * R := Nat.mul_pos (by omega) (by omega)
  obtain ⟨cs, hr, hmk, hcs⟩ := places l1.1 l1.2
  have z0 : (zs.map V.int)[0]? = some (.int zs[0]) := by rw [List.getElem?_map, e0]; rfl
  have z1 : (zs.map V.int)[1]? = some (.int zs[1]) := by rw [List.getElem?_map, e1]; rfl
  have hmul : ibin .mul (F : Int) (R : Int) = some ((F * R : Nat) : Int) := by simp only [ibin, small_nat (n := F) (by omega), if_true, Int.natCast_mul]
  have pW : M <+: M ++ waysM M.length := List.prefix_append _ _
  have p3 := pre_at pW h3
  obtain ⟨st', ht⟩ := turns (M0 := M ++ waysM M.length) (a0 := some (.ext ns)) B hpos (G.mono pW) ways_ok p3 cs hcs
    [some (.ext ns), some (.ref 3), some (.int (F : Nat)), some (.int (R : Nat)), some (.int ((F * R : Nat) : Int)), some (.ref 5), some (.ref (M.length + 12)), none, none, none, none, none, none, none, none, none, none, none, none, none, none, none]
    ((M ++ waysM M.length) ++ [.range 2 ((zs.length : Int) - 1) 2]) ⟨_, _, _, _, _, _, _, _, _, _, _, _, _, _, _, rfl⟩ (List.prefix_append _ _)
  have hlen : (zs.map V.int).length = zs.length := List.length_map ..
  refine ⟨st', ?_⟩
  refine exs_cons (ex_asg hs rfl) ?_
  refine exs_cons (ex_asg (ev_bin ev_lit (ev_bin (ev_idx (ev_loc rfl) ev_lit (list_seq rfl) rfl z0) ev_lit rfl) iF) rfl) ?_
  refine exs_cons (ex_asg (ev_bin ev_lit (ev_bin (ev_idx (ev_loc rfl) ev_lit (list_seq rfl) rfl z1) ev_lit rfl) iR) rfl) ?_
  refine exs_cons (ex_asg (ev_bin (ev_loc rfl) (ev_loc rfl) hmul) rfl) ?_
  refine exs_cons (ex_asg (ev_call (evs_cons (ev_loc rfl) (evs_cons (ev_loc rfl) (evs_cons ev_tt (evs_cons ev_tt evs_nil)))) hg) rfl) ?_
  refine exs_cons (ex_asg ways_run rfl) ?_
  refine exs_cons (ex_for_rng (ev_range (vs := [.int 2, .int ((zs.length : Int) - 1), .int 2]) (evs_cons ev_lit (evs_cons (ev_bin (ev_len_list (ev_loc rfl) p3 (by omega)) ev_lit (by rw [hlen]; rfl)) (evs_cons ev_lit evs_nil))) hmk) last_at (by rw [hr]; exact ht)) ?_
  exact exs_ret (ex_ret ev_tt)
end Mine
end
section
open PySem
namespace Mine

noncomputable def upB (sz : Nat) : Nat → List Nat → Bool
  | _, [] => true
  | s, p :: r => Nat.blt s p && (Nat.blt p sz && upB sz p r)
noncomputable def dnB : Nat → List Nat → Bool
  | _, [] => true
  | s, p :: r => Nat.blt p s && dnB p r
theorem blt_lt {a b : Nat} (h : Nat.blt a b = true) : a < b := Nat.le_of_ble_eq_true h
theorem upB_ok {sz : Nat} : ∀ {l : List Nat} {s : Nat}, upB sz s l = true → l.Pairwise (· < ·) ∧ ∀ p ∈ l, s < p ∧ p < sz
  | [], s, _ => ⟨.nil, fun _ h => nomatch h⟩
  | p :: r, s, h => by
    simp only [upB, Bool.and_eq_true] at h
    obtain ⟨h1, h2, h3⟩ := h
    have := blt_lt h1
    have := blt_lt h2
    obtain ⟨a, b⟩ := upB_ok h3
    refine ⟨.cons (fun q hq => (b q hq).1) a, fun q hq => ?_⟩
    rcases List.mem_cons.mp hq with rfl | hq
    · exact ⟨by omega, by omega⟩
    · have := b q hq; omega
theorem dnB_ok : ∀ {l : List Nat} {s : Nat}, dnB s l = true → l.Pairwise (· > ·) ∧ ∀ p ∈ l, p < s
  | [], s, _ => ⟨.nil, fun _ h => nomatch h⟩
  | p :: r, s, h => by
    simp only [dnB, Bool.and_eq_true] at h
    obtain ⟨h1, h3⟩ := h
    have := blt_lt h1
    obtain ⟨a, b⟩ := dnB_ok h3
    refine ⟨.cons (fun q hq => b q hq) a, fun q hq => ?_⟩
    rcases List.mem_cons.mp hq with rfl | hq
    · exact this
    · have := b q hq; omega
theorem nodup_of_and {a b : List Nat} (ha : a.Nodup) (hb : b.Nodup) (h : sumB a &&& sumB b = 0) : (a ++ b).Nodup := by
  rw [List.nodup_append]
  refine ⟨ha, hb, fun p hp q hq e => ?_⟩
  subst e
  have : (sumB a &&& sumB b).testBit p = true := by rw [Nat.testBit_and, tb_sum ha, tb_sum hb]; simp [hp, hq]
  rw [h, Nat.zero_testBit] at this
  cases this

/-- the ray of a way, from the front -/
noncomputable def wray (F R sq : Nat) (dx dy : Int) : Option (List Int) := rayO F R dx dy 20 (((sq % F : Nat) : Int) + dx) (((sq / F : Nat) : Int) + dy)
noncomputable def natsB : List Int → Option (List Nat)
  | [] => some []
  | .ofNat p :: r => (natsB r).map (p :: ·)
  | _ :: _ => none
theorem natsB_ok : ∀ {l : List Int} {ps : List Nat}, natsB l = some ps → l = ps.map fun p => ((p : Nat) : Int)
  | [], ps, h => by cases h; rfl
  | .ofNat p :: r, ps, h => by
    simp only [natsB, Option.map_eq_some_iff] at h
    obtain ⟨qs, h1, rfl⟩ := h
    rw [natsB_ok h1]
    rfl
  | .negSucc p :: r, ps, h => nomatch h
noncomputable def wnat (F R sq : Nat) (dx dy : Int) : Option (List Nat) := (wray F R sq dx dy).bind natsB
noncomputable def UD (o : Option (List Nat)) : List Nat := o.getD []
theorem wnat_ok {F R sq : Nat} {dx dy : Int} (h : (wnat F R sq dx dy).isSome = true) : rayO F R dx dy 20 (((sq % F : Nat) : Int) + dx) (((sq / F : Nat) : Int) + dy) = some ((UD (wnat F R sq dx dy)).map fun p => ((p : Nat) : Int)) := by
  cases hw : wnat F R sq dx dy with
  | none => rw [hw] at h; cases h
  | some ps =>
    simp only [wnat, Option.bind_eq_some_iff] at hw
    obtain ⟨L, h1, h2⟩ := hw
    exact h1.trans (congrArg some (natsB_ok h2))

noncomputable def lchk (F R sq k : Nat) : Option (List Nat) → Option (List Nat) → Bool
  | some u, some d => upB (F * R) sq u && (dnB sq d && (Nat.beq (lineM F R sq k) (sumB u + sumB d)))
  | _, _ => false
noncomputable abbrev upL (F R sq k : Nat) : Option (List Nat) := wnat F R sq (ux k) (uy k)
noncomputable abbrev dnL (F R sq k : Nat) : Option (List Nat) := wnat F R sq (-ux k) (-uy k)
noncomputable def chk (F R sq : Nat) : Bool := lchk F R sq 0 (upL F R sq 0) (dnL F R sq 0) && (lchk F R sq 1 (upL F R sq 1) (dnL F R sq 1) && (lchk F R sq 2 (upL F R sq 2) (dnL F R sq 2) && (lchk F R sq 3 (upL F R sq 3) (dnL F R sq 3) &&
  (Nat.beq (lineM F R sq 0 &&& lineM F R sq 1) 0 && (Nat.beq (lineM F R sq 2 &&& lineM F R sq 3) 0 && Nat.beq ((lineM F R sq 0 + lineM F R sq 1) &&& (lineM F R sq 2 + lineM F R sq 3)) 0)))))

theorem lchk_ok {F R sq k : Nat} {a b : Option (List Nat)} (hs : sq < F * R) (h : lchk F R sq k a b = true) : Line (F * R) sq (UD a) (UD b) ∧ lineM F R sq k = sumB (UD a ++ UD b) ∧ a.isSome = true ∧ b.isSome = true := by
  cases a with
  | none => cases h
  | some u =>
    cases b with
    | none => cases h
    | some d =>
      simp only [lchk, Bool.and_eq_true] at h
      obtain ⟨h1, h2, h3⟩ := h
      refine ⟨⟨(upB_ok h1).1, (dnB_ok h2).1, (upB_ok h1).2, (dnB_ok h2).2, hs⟩, ?_, rfl, rfl⟩
      rw [sumB_append]
      exact Nat.eq_of_beq_eq_true h3

theorem chk_ok {F R sq : Nat} (f1 : 2 ≤ F) (f2 : F ≤ 5) (r1 : 3 ≤ R) (r2 : R ≤ 6) (hs : sq < F * R) (h : chk F R sq = true) :
    Board F R sq (fun k => UD (upL F R sq k)) (fun k => UD (dnL F R sq k)) ∧ Rays F R sq (fun k => UD (upL F R sq k)) (fun k => UD (dnL F R sq k)) := by
  simp only [chk, Bool.and_eq_true] at h
  obtain ⟨h0, h1, h2, h3, h4, h5, h6⟩ := h
  obtain ⟨l0, m0, u0, d0⟩ := lchk_ok hs h0
  obtain ⟨l1, m1, u1, d1⟩ := lchk_ok hs h1
  obtain ⟨l2, m2, u2, d2⟩ := lchk_ok hs h2
  obtain ⟨l3, m3, u3, d3⟩ := lchk_ok hs h3
  have n0 := nodup_of_and l0.nodup l1.nodup (by rw [← m0, ← m1]; exact Nat.eq_of_beq_eq_true h4)
  have n1 := nodup_of_and l2.nodup l3.nodup (by rw [← m2, ← m3]; exact Nat.eq_of_beq_eq_true h5)
  have n2 := nodup_of_and n0 n1 (by rw [sumB_append, sumB_append (_ ++ _) (_ ++ _), ← m0, ← m1, ← m2, ← m3]; exact Nat.eq_of_beq_eq_true h6)
  have four : ∀ {P : Nat → Prop}, P 0 → P 1 → P 2 → P 3 → ∀ k, k < 4 → P k := fun a b c d k hk => by
    have : k = 0 ∨ k = 1 ∨ k = 2 ∨ k = 3 := by omega
    rcases this with rfl | rfl | rfl | rfl <;> assumption
  exact ⟨⟨f1, f2, r1, r2, four l0 l1 l2 l3, four m0 m1 m2 m3, n0, n1, n2⟩, ⟨four (wnat_ok u0) (wnat_ok u1) (wnat_ok u2) (wnat_ok u3), four (wnat_ok d0) (wnat_ok d1) (wnat_ok d2) (wnat_ok d3)⟩⟩

noncomputable def below (p : Nat → Bool) : Nat → Bool
  | 0 => true
  | n + 1 => p n && below p n
theorem below_ok {p : Nat → Bool} : ∀ {n : Nat}, below p n = true → ∀ i, i < n → p i = true
  | 0, _, i, h => by omega
  | n + 1, h, i, hi => by
    simp only [below, Bool.and_eq_true] at h
    by_cases e : i = n
    · subst e; exact h.1
    · exact below_ok h.2 i (by omega)
theorem rows {F R : Nat} (f1 : 2 ≤ F) (f2 : F ≤ 5) (r1 : 3 ≤ R) (r2 : R ≤ 6) (h : below (chk F R) (F * R) = true) :
    ∃ U D : Nat → Nat → List Nat, ∀ sq, sq < F * R → Board F R sq (U sq) (D sq) ∧ Rays F R sq (U sq) (D sq) :=
  ⟨fun sq k => UD (upL F R sq k), fun sq k => UD (dnL F R sq k), fun sq hs => chk_ok f1 f2 r1 r2 hs (below_ok h sq hs)⟩

theorem row2x3 : below (chk 2 3) (2 * 3) = true := by kernel_rfl
theorem row2x4 : below (chk 2 4) (2 * 4) = true := by kernel_rfl
theorem row2x5 : below (chk 2 5) (2 * 5) = true := by kernel_rfl
theorem row2x6 : below (chk 2 6) (2 * 6) = true := by kernel_rfl
theorem row3x3 : below (chk 3 3) (3 * 3) = true := by kernel_rfl
theorem row3x4 : below (chk 3 4) (3 * 4) = true := by kernel_rfl
theorem row3x5 : below (chk 3 5) (3 * 5) = true := by kernel_rfl
theorem row3x6 : below (chk 3 6) (3 * 6) = true := by kernel_rfl
theorem row4x3 : below (chk 4 3) (4 * 3) = true := by kernel_rfl
theorem row4x4 : below (chk 4 4) (4 * 4) = true := by kernel_rfl
theorem row4x5 : below (chk 4 5) (4 * 5) = true := by kernel_rfl
theorem row4x6 : below (chk 4 6) (4 * 6) = true := by kernel_rfl
theorem row5x3 : below (chk 5 3) (5 * 3) = true := by kernel_rfl
theorem row5x4 : below (chk 5 4) (5 * 4) = true := by kernel_rfl
theorem row5x5 : below (chk 5 5) (5 * 5) = true := by kernel_rfl
theorem row5x6 : below (chk 5 6) (5 * 6) = true := by kernel_rfl
theorem boardAll : BoardAll := by
  intro F R f1 f2 r1 r2
  refine rows f1 f2 r1 r2 ?_
  have hF : F = 2 ∨ F = 3 ∨ F = 4 ∨ F = 5 := by omega
  have hR : R = 3 ∨ R = 4 ∨ R = 5 ∨ R = 6 := by omega
  rcases hF with rfl | rfl | rfl | rfl <;> rcases hR with rfl | rfl | rfl | rfl
  · exact row2x3
  · exact row2x4
  · exact row2x5
  · exact row2x6
  · exact row3x3
  · exact row3x4
  · exact row3x5
  · exact row3x6
  · exact row4x3
  · exact row4x4
  · exact row4x5
  · exact row4x6
  · exact row5x3
  · exact row5x4
  · exact row5x5
  · exact row5x6
end Mine
end
section
open PySem
namespace Mine

noncomputable def isI (o : Option V) (i : Int) : Bool := match o with
  | some (.int j) => j == i
  | _ => false
noncomputable def rf : Option V → Nat
  | some (.ref j) => j
  | _ => 0
noncomputable def isR : Option V → Bool
  | some (.ref _) => true
  | _ => false
noncomputable def lsI (o : Option O) (ns : List Int) : Bool := match o with
  | some (.list vs) => match ints? vs with
    | some ms => ms == ns
    | none => false
  | _ => false
theorem isI_ok {o : Option V} {i : Int} (h : isI o i = true) : o = some (.int i) := by
  unfold isI at h
  split at h
  · rw [eq_of_beq h]
  · cases h
theorem isR_ok {o : Option V} (h : isR o = true) : o = some (.ref (rf o)) := by
  unfold isR at h
  split at h
  · rfl
  · cases h
theorem ints_ok : ∀ {vs : List V} {ns : List Int}, ints? vs = some ns → vs = ns.map V.int
  | [], ns, h => by cases h; rfl
  | .int a :: r, ns, h => by
    simp only [ints?, Option.map_eq_some_iff] at h
    obtain ⟨qs, h1, rfl⟩ := h
    rw [ints_ok h1]
    rfl
  | .bool _ :: _, _, h => nomatch h
  | .nul :: _, _, h => nomatch h
  | .ref _ :: _, _, h => nomatch h
  | .ext _ :: _, _, h => nomatch h
theorem lsI_ok {o : Option O} {ns : List Int} (h : lsI o ns = true) : o = some (.list (ns.map V.int)) := by
  unfold lsI at h
  split at h
  · split at h
    · rename_i h'
      rw [ints_ok h', eq_of_beq h]
    · cases h
  · cases h

noncomputable def fileI (F R : Nat) : List Int := (List.range F).map fun f => ((sumB ((List.range R).map fun r => r * F + f) : Nat) : Int)
noncomputable def rankI (F R : Nat) : List Int := (List.range R).map fun r => ((sumB ((List.range F).map fun f => r * F + f) : Nat) : Int)

noncomputable def geoOk (F R : Nat) (m : Mem) : Bool := match fieldsOf m (.ref 5) with
  | some (_, vs) => isI vs[0]? (F : Nat) && (isI vs[1]? (R : Nat) && (isI vs[2]? ((F * R : Nat) : Int) && (isI vs[3]? ((2 ^ (F * R) - 1 : Nat) : Int) && (isR vs[6]? && (isR vs[7]? &&
      (lsI m[rf vs[6]?]? (fileI F R) && lsI m[rf vs[7]?]? (rankI F R)))))))
  | none => false

theorem geoOk_ok {F R : Nat} {m : Mem} (h : geoOk F R m = true) : Geo 5 F R m ∧ 5 < m.length := by
  unfold geoOk at h
  split at h
  · rename_i d vs hf
    simp only [Bool.and_eq_true] at h
    obtain ⟨h0, h1, h2, h3, h4, h5, h6, h7⟩ := h
    refine ⟨⟨d, vs, rf vs[6]?, rf vs[7]?, hf, isI_ok h0, isI_ok h1, isI_ok h2, isI_ok h3, isR_ok h4, isR_ok h5, ?_, ?_⟩, ?_⟩
    · rw [lsI_ok h6, fileI, List.map_map]; rfl
    · rw [lsI_ok h7, rankI, List.map_map]; rfl
    · cases h' : m[5]? with
      | none => simp only [fieldsOf, h'] at hf; cases hf
      | some o => exact (List.getElem?_eq_some_iff.mp h').1
  · cases h

noncomputable def geoT (F R : Nat) : Option (V × Mem) → Bool × O
  | some (.ref g, m) => (Nat.beq g 5 && geoOk F R m, match m[3]? with
    | some c => c
    | none => .dict [])
  | _ => (false, .dict [])
theorem geoT_ok {F R : Nat} {x : Option (V × Mem)} {c : O} (h : geoT F R x = (true, c)) : ∃ M, x = some (.ref 5, M) ∧ Geo 5 F R M ∧ M[3]? = some c := by
  unfold geoT at h
  split at h
  · rename_i g m
    obtain ⟨h1, h2⟩ := Prod.mk.inj h
    rw [Bool.and_eq_true] at h1
    obtain ⟨h1, h3⟩ := h1
    cases Nat.eq_of_beq_eq_true h1
    obtain ⟨G, hl⟩ := geoOk_ok h3
    refine ⟨m, rfl, G, ?_⟩
    have e : m[3]? = some m[3] := List.getElem?_eq_getElem (by omega)
    rw [e] at h2 ⊢
    rw [← h2]
  · cases h

set_option maxRecDepth 100000
theorem geo2x3 (c0 c1 c2 c3 : O) : geoT 2 3 (semR glbG fns 12 18 [.int ((2 : Nat) : Int), .int ((3 : Nat) : Int), .bool false, .bool false] [c0, c1, c2, c3]) = (true, c3) := by kernel_rfl
theorem geo2x4 (c0 c1 c2 c3 : O) : geoT 2 4 (semR glbG fns 12 18 [.int ((2 : Nat) : Int), .int ((4 : Nat) : Int), .bool false, .bool false] [c0, c1, c2, c3]) = (true, c3) := by kernel_rfl
theorem geo2x5 (c0 c1 c2 c3 : O) : geoT 2 5 (semR glbG fns 12 18 [.int ((2 : Nat) : Int), .int ((5 : Nat) : Int), .bool false, .bool false] [c0, c1, c2, c3]) = (true, c3) := by kernel_rfl
theorem geo2x6 (c0 c1 c2 c3 : O) : geoT 2 6 (semR glbG fns 12 18 [.int ((2 : Nat) : Int), .int ((6 : Nat) : Int), .bool false, .bool false] [c0, c1, c2, c3]) = (true, c3) := by kernel_rfl
theorem geo3x3 (c0 c1 c2 c3 : O) : geoT 3 3 (semR glbG fns 12 18 [.int ((3 : Nat) : Int), .int ((3 : Nat) : Int), .bool false, .bool false] [c0, c1, c2, c3]) = (true, c3) := by kernel_rfl
theorem geo3x4 (c0 c1 c2 c3 : O) : geoT 3 4 (semR glbG fns 12 18 [.int ((3 : Nat) : Int), .int ((4 : Nat) : Int), .bool false, .bool false] [c0, c1, c2, c3]) = (true, c3) := by kernel_rfl
theorem geo3x5 (c0 c1 c2 c3 : O) : geoT 3 5 (semR glbG fns 12 18 [.int ((3 : Nat) : Int), .int ((5 : Nat) : Int), .bool false, .bool false] [c0, c1, c2, c3]) = (true, c3) := by kernel_rfl
theorem geo3x6 (c0 c1 c2 c3 : O) : geoT 3 6 (semR glbG fns 12 18 [.int ((3 : Nat) : Int), .int ((6 : Nat) : Int), .bool false, .bool false] [c0, c1, c2, c3]) = (true, c3) := by kernel_rfl
theorem geo4x3 (c0 c1 c2 c3 : O) : geoT 4 3 (semR glbG fns 12 18 [.int ((4 : Nat) : Int), .int ((3 : Nat) : Int), .bool false, .bool false] [c0, c1, c2, c3]) = (true, c3) := by kernel_rfl
theorem geo4x4 (c0 c1 c2 c3 : O) : geoT 4 4 (semR glbG fns 12 18 [.int ((4 : Nat) : Int), .int ((4 : Nat) : Int), .bool false, .bool false] [c0, c1, c2, c3]) = (true, c3) := by kernel_rfl
theorem geo4x5 (c0 c1 c2 c3 : O) : geoT 4 5 (semR glbG fns 12 18 [.int ((4 : Nat) : Int), .int ((5 : Nat) : Int), .bool false, .bool false] [c0, c1, c2, c3]) = (true, c3) := by kernel_rfl
theorem geo4x6 (c0 c1 c2 c3 : O) : geoT 4 6 (semR glbG fns 12 18 [.int ((4 : Nat) : Int), .int ((6 : Nat) : Int), .bool false, .bool false] [c0, c1, c2, c3]) = (true, c3) := by kernel_rfl
theorem geo5x3 (c0 c1 c2 c3 : O) : geoT 5 3 (semR glbG fns 12 18 [.int ((5 : Nat) : Int), .int ((3 : Nat) : Int), .bool false, .bool false] [c0, c1, c2, c3]) = (true, c3) := by kernel_rfl
theorem geo5x4 (c0 c1 c2 c3 : O) : geoT 5 4 (semR glbG fns 12 18 [.int ((5 : Nat) : Int), .int ((4 : Nat) : Int), .bool false, .bool false] [c0, c1, c2, c3]) = (true, c3) := by kernel_rfl
theorem geo5x5 (c0 c1 c2 c3 : O) : geoT 5 5 (semR glbG fns 12 18 [.int ((5 : Nat) : Int), .int ((5 : Nat) : Int), .bool false, .bool false] [c0, c1, c2, c3]) = (true, c3) := by kernel_rfl
theorem geo5x6 (c0 c1 c2 c3 : O) : geoT 5 6 (semR glbG fns 12 18 [.int ((5 : Nat) : Int), .int ((6 : Nat) : Int), .bool false, .bool false] [c0, c1, c2, c3]) = (true, c3) := by kernel_rfl
theorem geoAll : GeoAll := by
  intro F R f1 f2 r1 r2 c0 c1 c2 c3
  refine geoT_ok ?_
  rw [← semR_eq]
  have hF : F = 2 ∨ F = 3 ∨ F = 4 ∨ F = 5 := by omega
  have hR : R = 3 ∨ R = 4 ∨ R = 5 ∨ R = 6 := by omega
  rcases hF with rfl | rfl | rfl | rfl <;> rcases hR with rfl | rfl | rfl | rfl
  · exact geo2x3 c0 c1 c2 c3
  · exact geo2x4 c0 c1 c2 c3
  · exact geo2x5 c0 c1 c2 c3
  · exact geo2x6 c0 c1 c2 c3
  · exact geo3x3 c0 c1 c2 c3
  · exact geo3x4 c0 c1 c2 c3
  · exact geo3x5 c0 c1 c2 c3
  · exact geo3x6 c0 c1 c2 c3
  · exact geo4x3 c0 c1 c2 c3
  · exact geo4x4 c0 c1 c2 c3
  · exact geo4x5 c0 c1 c2 c3
  · exact geo4x6 c0 c1 c2 c3
  · exact geo5x3 c0 c1 c2 c3
  · exact geo5x4 c0 c1 c2 c3
  · exact geo5x5 c0 c1 c2 c3
  · exact geo5x6 c0 c1 c2 c3
theorem lawTrue' : LawTrue' := law_true geoAll boardAll
end Mine
end
section
open PySem PySem.W PySem.Calls PyProof.Rows PySem.Spec
namespace Mine
set_option maxRecDepth 100000
set_option maxHeartbeats 0

/-- the top behind the boot, told by one equation of its run -/
theorem topFrom_run {p : Program} {w : World} {N n : Nat} {ann : Option Value} {b s : Shared} (h1 : (b.heap.isNs mainGlobals && b.gens.size == 0) = true) (h2 : b.heap.objs.size = n) (h3 : b.heap.nsMap mainGlobals "__annotations__" = ann)
    (h4 : topRun treeTable p w n ann N b (topStub p) = some s) (h5 : (staticsOk (importedModules p.main.body) b.heap s.heap && namesBound p s.heap && gensDone s && laidKept b.heap s.heap) = true) : topFrom treeTable p w N b = some s := by
  subst h2 h3
  simp only [topFrom, h1, h4, Option.bind_some, h5]

/-- the head from the boot: the text's run, looked at once -/
theorem left_of {p q : Program} {loose : List Str} {Xt : Shared → Bool} {α : Type} {Yf : Shared → α} {Ya : World → α} {N n : Nat} {ann : Option Value}
    (o : ∀ w : World, (fencedOpening treeTable p w N).map (fun s => (s.heap, s.gens, s.drawn, s.toks)) = some (boot_heap w.params, Array.mk [], boot_drawn, boot_toks))
    (z : ∀ w : World, ((boot_heap w.params).isNs mainGlobals && (Array.mk [] : Array GenState).size == 0, (boot_heap w.params).objs.size, (boot_heap w.params).nsMap mainGlobals "__annotations__") = (true, n, ann))
    (r : ∀ (w : World) (os : OsState), (topRun treeTable p w n ann N ⟨boot_heap w.params, Array.mk [], boot_drawn, boot_toks, os⟩ (topStub p)).map (fun s =>
      ((staticsOk (importedModules p.main.body) (boot_heap w.params) s.heap && namesBound p s.heap && gensDone s && laidKept (boot_heap w.params) s.heap), openSeen q loose (importedModules p.main.body) Xt true s, Yf s)) = some (true, openGood q loose, Ya w)) :
    LeftO p q loose Xt Yf Ya N := by
  intro w
  have ho := o w
  have hz := z w
  cases e : fencedOpening treeTable p w N with
  | none => rw [e] at ho; cases ho
  | some b =>
    rw [e] at ho
    have hr := r w b.os
    have hb : b = ⟨boot_heap w.params, Array.mk [], boot_drawn, boot_toks, b.os⟩ := by
      cases b
      simp only [Option.map_some, Option.some.injEq, Prod.mk.injEq] at ho
      simp only [ho]
    rw [← hb] at hr
    cases t : topRun treeTable p w n ann N b (topStub p) with
    | none => rw [t] at hr; cases hr
    | some s =>
      rw [t] at hr
      have hh : b.heap = boot_heap w.params := by rw [hb]
      have hg : b.gens = Array.mk [] := by rw [hb]
      rw [← hh, ← hg] at hz
      rw [← hh] at hr
      have k1 := congrArg (fun x => x.1) hz
      have k2 := congrArg (fun x => x.2.1) hz
      have k3 := congrArg (fun x => x.2.2) hz
      have hr' := Option.some.inj hr
      show ((fencedOpening treeTable p w N).bind (topFrom treeTable p w N)).map _ = _
      rw [e, Option.bind_some, topFrom_run k1 k2 k3 t (congrArg (fun x => x.1) hr'), Option.map_some]
      exact congrArg some (congrArg (fun x => x.2) hr')

abbrev rw1 : OpenLaw := PySem.Challenge.rw_nt0426_01
abbrev pw1 : Program := PySem.Challenge.pw_nt0426_01
noncomputable def vw : Program := view pw1 [1,2,3,4,5,7,8,9,10,11,12,13,14,15,17,19,20,21,22,23,24,25,26,27,28,29,31,32]
noncomputable def Xt1 (s : Shared) : Bool := xlAt vw [] s && recOk rw1.row.toRowW.records s
theorem said : OpenLaw.wellSaid rw1 = true := by
  rw [PySem.W.Fast.te9446332074065402090]
  kernel_rfl
theorem boot1 : ∀ w : World, (fencedOpening treeTable pw1 w 2770).map (fun s => (s.heap, s.gens, s.drawn, s.toks)) = some (boot_heap w.params, Array.mk [], boot_drawn, boot_toks) := boot_open (by rfl) rfl (fun _ => by rfl)
theorem size1 : ∀ w : World, ((boot_heap w.params).isNs mainGlobals && (Array.mk [] : Array GenState).size == 0, (boot_heap w.params).objs.size, (boot_heap w.params).nsMap mainGlobals "__annotations__") = (true, 11, some (.ref 6)) := fun w => by kernel_rfl
theorem run1 : ∀ (w : World) (os : OsState), (topRun treeTable pw1 w 11 (some (.ref 6)) 2770 ⟨boot_heap w.params, Array.mk [], boot_drawn, boot_toks, os⟩ (topStub pw1)).map (fun s =>
      ((staticsOk (importedModules pw1.main.body) (boot_heap w.params) s.heap && namesBound pw1 s.heap && gensDone s && laidKept (boot_heap w.params) s.heap), openSeen vw [] (importedModules pw1.main.body) Xt1 true s, topOk (frOf theAs s.heap))) = some (true, openGood vw [], true) := fun w os => by
  rw [PySem.W.Fast.te14082659384304107361, PySem.W.Fast.te14364793385576792824, PySem.W.Fast.te4187177175401517315]
  kernel_rfl
theorem leftO : LeftO pw1 vw [] Xt1 (fun s => topOk (frOf theAs s.heap)) (fun _ => true) 2770 := left_of boot1 size1 run1
end Mine
end
section
open PySem PySem.W PySem.Calls PyProof.Rows PySem.Spec
namespace Mine
/-- the law's body answers true -/
abbrev LawTrue : Prop := LawTrue'

def envB (c : Sc) (env : Env) : Bool := env.globals == mainGlobals && env.builtins == builtinsNs && env.scope.kind == .function &&
  c.loc.all (fun x => env.scope.names.lookup x == some .local && !(x == ("__debug__" : Str))) && c.glob.all (fun x => env.scope.names.lookup x == some .globalImplicit && !(x == ("__debug__" : Str)))
theorem envOk_of {c : Sc} {env : Env} {L : Addr} (hl : env.locals = L) (hd : c.loc.Nodup) (h : envB c env = true) : EnvOk c env L := by
  simp only [envB, Bool.and_eq_true, beq_iff_eq, Bool.not_eq_true', List.all_eq_true] at h
  obtain ⟨⟨⟨⟨a1, a2⟩, a3⟩, a4⟩, a5⟩ := h
  exact ⟨hl, a1, a2, a3, a4, fun x hx => a5 x (List.contains_iff_mem.mp hx), hd⟩

theorem join {prog : Program} (HL : LawTrue) {w : World} {mg mb : Str → Option Value} {hb h₁ : Heap} {pr : Program} {loose : List Str} {mean : ExcName → Option Value} {K : Frag} (X : K.In hb) (HK : topOk K = true) (T : Top pr loose mean mg mb hb)
    {L a : Addr} {m : Str → Option Value} (F : Fr hb L h₁ m) {vals : List Value} {ns : List Int} (hl : hb.IsList a vals.toArray) (hi : IntsAre vals ns) (hlen : ns.length ≤ 63) (hm : m "script" = some (.ref a))
    {A : Around} {env : Env} {body : List Stmt} {g : Array GenState} {d : Drawn} {tk : Nat} {os : OsState} {Q : Flow → Shared → Prop} {E : Value → Shared → Prop} (hA : AOk 12 A) (hL : env.locals = L) (hE : envB cLaw env = true) (hb' : cSs namesP cLaw fLaw.body body = true)
    (q : ∀ h' tk m', Fr hb L h' m' → Q (.ret (.bool true)) ⟨h', g, d, tk, os⟩) : wpAny (model prog w) A (execs body env) Q E ⟨h₁, g, d, tk, os⟩ := by
  have W := theWd (prog := prog) (w := w) X HK T
  obtain ⟨st', he⟩ := HL ns hlen
  have hvl : vals.length = ns.length := hi.length
  have I : Inv 130 namesP.attrs hb L [] m [] [] h₁ := ⟨F.ns, F.keep, F.above, (fun _ h => nomatch h), (fun i c h => by simp at h), (fun _ h => nomatch h), rfl, List.nodup_nil⟩
  have LR : LocR hb cLaw.loc [] ([some (.ext ns)] ++ List.replicate 21 none) m := by
    refine ⟨rfl, fun x v h => ?_⟩
    cases x with
    | zero =>
      cases h
      exact ⟨"script", .ref a, rfl, hm, a, vals, rfl, hl, hi, by omega⟩
    | succ x =>
      exfalso
      have h' : (List.replicate 21 (none : Option V))[x]? = some (some v) := h
      have := List.eq_of_mem_replicate (List.mem_of_getElem? h')
      cases this
  refine wpAny_mono (exs_sound W (sem_sound W 12) (envOk_of hL (by decide +kernel) hE) hA fLaw.body hb' _ _ _ st' [] m [] ⟨h₁, g, d, tk, os⟩ _ he I LR fun h' tk' ad' m' fl I' p LR' hf => ?_) (fun _ _ x => x) (fun _ _ x => x.elim)
  obtain ⟨val, rfl, r⟩ := hf
  cases r
  exact q h' tk' m' I'.fr

set_option maxRecDepth 100000
set_option maxHeartbeats 8000000
theorem main (HL : LawTrue) : PySem.Challenge.rw_nt0426_01.Holds := by
  w_on
  refine holds_law said fun said' => ?_
  refine holds_open (q := vw) (loose := []) (Xt := Xt1) (XP := XL vw []) (YP := fun _ h => Says h) leftO (fun w s e => says_of e) (fun w h h' s k => says_keeps s k) (fun s e => xl_of s (Bool.and_eq_true_iff.mp e).1) XL.keeps (by rfl) (by rfl) (by rfl) (fun s e => recFacts_of (Bool.and_eq_true_iff.mp e).2) (by rfl) said' (by decide +kernel) ⟨rfl, rfl, rfl, rfl, rfl, by decide +kernel⟩ ?hw ?hc
  case hw => w_witness2
  case hc =>
    intro w s₀ s₁ mg mb G Y fa o pm cd doc dV kV ho hd hcd hD hmg hg args vals as hpre hlay hrd hwl hlo
    obtain ⟨K, KX, HK⟩ := Y
    k_behind G ho hd hcd hD hmg hpre hlay hrd hwl hlo cd
    rename Top _ _ _ _ _ _ => T
    rename Fr _ _ _ _ => F
    rename IntsAre _ _ => hI
    rename Heap.IsList _ _ _ => hL
    rename ¬ (_ < _) => hlen
    refine join HL KX HK T F hL hI (by omega) rfl ⟨rfl, Nat.le_of_ble_eq_true rfl, Nat.le_of_ble_eq_true rfl⟩ rfl (by kernel_rfl) (by kernel_rfl) (fun h' tk m' F' => ?_)
    dsimp only
    wrow_close
end Mine
end
theorem PySem.Challenge.cw_nt0426_01_holds : PySem.Challenge.rw_nt0426_01.Holds :=
  Mine.main Mine.lawTrue'
